import PyProof.Rows.All
import Wide.All
import OpenK.AllK
import Wide.FinOn
import HandS.ForMost
import HandS.ForExc
import HandS.TupMul
import HandS.Wide
import HandS.IsInst
import HandS.Style
import HandS.Flow
import HandS.TupAny
import KE.GoesMore
import KE.KTupSum
import PyProof.ReprRoads
import HandS.RaiseMore
import HandS.ExcOwn
import HandS.Comp
import HandS.Zip
import HandS.Conv
import HandS.Rev
import KE.KExcSuper
import HandS.ExcInit
import HandS.TryMany
import HandS.ExcField
import HandS.ExcIs
import KE.KExcIs
import HandS.ExcValue
import HandS.Words
import HandS.WordsExc
import HandS.Ends
import HandS.List
import KE.DataMinMax
import HandS.Defaults
import KE.RegKSuper
import PySem.Challenge.RW_geartrue_k27_whole_nearest_wheels_and_fr
import HandS.ForSpec
set_option Elab.async false
set_option linter.all false
set_option maxRecDepth 100000
/-! DBase: values as trees (D), a store of lists by numbers (SS), how they lie in the abstract heap; results and what is wanted of them. -/
namespace DL
open PySem L2

inductive D where
  | non | bl (b : Bool) | int (i : Int) | str (x : Str) | tup (ds : List D) | rls (ds : List D) | ref (k : Nat) | ty (n : String) | gl (a : Addr)

/-- what stands in the store -/
inductive MO where
  | lst (ds : List D)
  | dct (kvs : List (Key × D))
abbrev SS := List MO
abbrev Sl := List (Option D)

/-- a list that nobody writes -/
def FrzL (K : PySem.W.Frag) (H : Hp) (a : Addr) (xs : List V) : Prop :=
  (∃ o, H a = some (.frz o (.lst xs))) ∨
    ∃ (o : Obj) (its : Array Value) (n : Nat), K.lookup a = some o ∧ o.cls = .type "list" ∧ o.dict = none ∧ o.data = .seq its n ∧ its.size ≤ sizeLine ∧ Vals xs its.toList
theorem FrzL.sq {K : PySem.W.Frag} {H : Hp} {a : Addr} {xs : List V} (h : FrzL K H a xs) : SqL K H a xs := by
  rcases h with ⟨o, h⟩ | h
  · exact .inl (.inr ⟨o, h⟩)
  · exact .inr h

mutual
def RD (K : PySem.W.Frag) (H : Hp) (ι : List Addr) : D → V → Prop
  | .non, v => v = .non
  | .bl b, v => v = .bl b
  | .int i, v => v = .int i
  | .str x, v => v = .str x
  | .tup ds, v => ∃ a vs, v = .ref a ∧ SqT K H a vs ∧ RDs K H ι ds vs
  | .rls ds, v => ∃ a vs, v = .ref a ∧ FrzL K H a vs ∧ RDs K H ι ds vs
  | .ref k, v => ∃ a, v = .ref a ∧ ι[k]? = some a
  | .ty n, v => v = .ty n
  | .gl a, v => v = .ref a
def RDs (K : PySem.W.Frag) (H : Hp) (ι : List Addr) : List D → List V → Prop
  | [], vs => vs = []
  | d :: ds, vs => ∃ v r, vs = v :: r ∧ RD K H ι d v ∧ RDs K H ι ds r
end

/-- what the heap keeps: tuples, lists that nobody writes; the store's addresses grow -/
structure Gr (K : PySem.W.Frag) (H : Hp) (ι : List Addr) (H' : Hp) (ι' : List Addr) : Prop where
  tup : ∀ a vs, SqT K H a vs → SqT K H' a vs
  frz : ∀ a vs, FrzL K H a vs → FrzL K H' a vs
  pre : ι <+: ι'
theorem Gr.refl {K : PySem.W.Frag} {H : Hp} {ι : List Addr} : Gr K H ι H ι := ⟨fun _ _ h => h, fun _ _ h => h, List.prefix_refl _⟩
theorem Gr.trans {K : PySem.W.Frag} {H H1 H2 : Hp} {ι ι1 ι2 : List Addr} (a : Gr K H ι H1 ι1) (b : Gr K H1 ι1 H2 ι2) : Gr K H ι H2 ι2 :=
  ⟨fun x v h => b.tup x v (a.tup x v h), fun x v h => b.frz x v (a.frz x v h), a.pre.trans b.pre⟩
theorem prefix_get {α : Type} {l l' : List α} (h : l <+: l') {k : Nat} {a : α} (e : l[k]? = some a) : l'[k]? = some a := by
  obtain ⟨t, rfl⟩ := h
  rw [List.getElem?_append_left]
  · exact e
  · exact (List.getElem?_eq_some_iff.mp e).1

section
variable {K : PySem.W.Frag} {H H' : Hp} {ι ι' : List Addr}
mutual
theorem RD.mono (g : Gr K H ι H' ι') : ∀ {d : D} {v : V}, RD K H ι d v → RD K H' ι' d v
  | .non, _, h => by unfold RD at *; exact h
  | .bl _, _, h => by unfold RD at *; exact h
  | .int _, _, h => by unfold RD at *; exact h
  | .str _, _, h => by unfold RD at *; exact h
  | .tup ds, _, h => by
    unfold RD at *
    obtain ⟨a, vs, e, q, r⟩ := h
    exact ⟨a, vs, e, g.tup a vs q, RDs.mono g r⟩
  | .rls ds, _, h => by
    unfold RD at *
    obtain ⟨a, vs, e, q, r⟩ := h
    exact ⟨a, vs, e, g.frz a vs q, RDs.mono g r⟩
  | .ref k, _, h => by
    unfold RD at *
    obtain ⟨a, e, q⟩ := h
    exact ⟨a, e, prefix_get g.pre q⟩
  | .ty _, _, h => by unfold RD at *; exact h
  | .gl _, _, h => by unfold RD at *; exact h
theorem RDs.mono (g : Gr K H ι H' ι') : ∀ {ds : List D} {vs : List V}, RDs K H ι ds vs → RDs K H' ι' ds vs
  | [], _, h => by unfold RDs at *; exact h
  | d :: ds, _, h => by
    unfold RDs at *
    obtain ⟨v, r, e, q, s⟩ := h
    exact ⟨v, r, e, RD.mono g q, RDs.mono g s⟩
end
theorem RDs.nil : RDs K H ι [] [] := by unfold RDs; rfl
theorem RDs.cons {d : D} {v : V} {ds : List D} {vs : List V} (a : RD K H ι d v) (b : RDs K H ι ds vs) : RDs K H ι (d :: ds) (v :: vs) := by
  unfold RDs; exact ⟨v, vs, rfl, a, b⟩
theorem RDs.length : ∀ {ds : List D} {vs : List V}, RDs K H ι ds vs → ds.length = vs.length
  | [], _, h => by unfold RDs at h; subst h; rfl
  | d :: ds, _, h => by
    unfold RDs at h
    obtain ⟨v, r, e, q, s⟩ := h
    rw [e, List.length_cons, List.length_cons, RDs.length s]
theorem RDs.get : ∀ {ds : List D} {vs : List V} {i : Nat} {d : D}, RDs K H ι ds vs → ds[i]? = some d → ∃ v, vs[i]? = some v ∧ RD K H ι d v
  | [], _, i, d, _, e => by simp at e
  | x :: ds, _, 0, d, h, e => by
    unfold RDs at h
    obtain ⟨v, r, e', q, s⟩ := h
    subst e'
    simp at e
    subst e
    exact ⟨v, rfl, q⟩
  | x :: ds, _, i + 1, d, h, e => by
    unfold RDs at h
    obtain ⟨v, r, e', q, s⟩ := h
    subst e'
    obtain ⟨u, h1, h2⟩ := RDs.get (i := i) (d := d) s (by simpa using e)
    exact ⟨u, by simpa using h1, h2⟩
theorem RDs.append : ∀ {ds es : List D} {vs us : List V}, RDs K H ι ds vs → RDs K H ι es us → RDs K H ι (ds ++ es) (vs ++ us)
  | [], _, _, _, h, q => by unfold RDs at h; subst h; exact q
  | x :: ds, es, _, us, h, q => by
    unfold RDs at h
    obtain ⟨v, r, e', q', s⟩ := h
    subst e'
    exact RDs.cons q' (RDs.append s q)
theorem RDs.set {d : D} {v : V} (a : RD K H ι d v) : ∀ {ds : List D} {vs : List V} (i : Nat), RDs K H ι ds vs → RDs K H ι (ds.set i d) (vs.set i v)
  | [], _, _, h => by unfold RDs at h; subst h; exact RDs.nil
  | x :: ds, _, 0, h => by
    unfold RDs at h
    obtain ⟨v', r, e', q, s⟩ := h
    subst e'
    exact RDs.cons a s
  | x :: ds, _, i + 1, h => by
    unfold RDs at h
    obtain ⟨v', r, e', q, s⟩ := h
    subst e'
    exact RDs.cons q (RDs.set a i s)
theorem RDs.take : ∀ {ds : List D} {vs : List V} (n : Nat), RDs K H ι ds vs → RDs K H ι (ds.take n) (vs.take n)
  | [], _, _, h => by unfold RDs at h; subst h; simp; exact RDs.nil
  | x :: ds, _, 0, h => by simp; exact RDs.nil
  | x :: ds, _, n + 1, h => by
    unfold RDs at h
    obtain ⟨v', r, e', q, s⟩ := h
    subst e'
    exact RDs.cons q (RDs.take n s)
theorem RDs.drop : ∀ {ds : List D} {vs : List V} (n : Nat), RDs K H ι ds vs → RDs K H ι (ds.drop n) (vs.drop n)
  | [], _, _, h => by unfold RDs at h; subst h; simp; exact RDs.nil
  | x :: ds, _, 0, h => h
  | x :: ds, _, n + 1, h => by
    unfold RDs at h
    obtain ⟨v', r, e', q, s⟩ := h
    subst e'
    exact RDs.drop n s
theorem RDs.reverse : ∀ {ds : List D} {vs : List V}, RDs K H ι ds vs → RDs K H ι ds.reverse vs.reverse
  | [], _, h => by unfold RDs at h; subst h; exact RDs.nil
  | x :: ds, _, h => by
    unfold RDs at h
    obtain ⟨v', r, e', q, s⟩ := h
    subst e'
    rw [List.reverse_cons, List.reverse_cons]
    exact RDs.append (RDs.reverse s) (RDs.cons q RDs.nil)
end

/-- a dict's entries -/
def RKs (K : PySem.W.Frag) (H : Hp) (ι : List Addr) : List (Key × D) → List (Key × V) → Prop
  | [], vs => vs = []
  | (k, d) :: ds, vs => ∃ v r, vs = (k, v) :: r ∧ RD K H ι d v ∧ RKs K H ι ds r
theorem RKs.mono {K : PySem.W.Frag} {H H' : Hp} {ι ι' : List Addr} (g : Gr K H ι H' ι') : ∀ {ds : List (Key × D)} {vs : List (Key × V)}, RKs K H ι ds vs → RKs K H' ι' ds vs
  | [], _, h => h
  | (k, d) :: ds, _, h => by
    obtain ⟨v, r, e, q, s⟩ := h
    exact ⟨v, r, e, q.mono g, RKs.mono g s⟩
/-- fields of an exception -/
def RF (K : PySem.W.Frag) (H : Hp) (ι : List Addr) : List (Str × D) → List (Str × V) → Prop
  | [], vs => vs = []
  | (k, d) :: ds, vs => ∃ v r, vs = (k, v) :: r ∧ RD K H ι d v ∧ RF K H ι ds r
theorem RF.mono {K : PySem.W.Frag} {H H' : Hp} {ι ι' : List Addr} (g : Gr K H ι H' ι') : ∀ {ds : List (Str × D)} {vs : List (Str × V)}, RF K H ι ds vs → RF K H' ι' ds vs
  | [], _, h => h
  | (k, d) :: ds, _, h => by
    obtain ⟨v, r, e, q, s⟩ := h
    exact ⟨v, r, e, q.mono g, RF.mono g s⟩
theorem RF.lookup {K : PySem.W.Frag} {H : Hp} {ι : List Addr} {f : Str} {d : D} : ∀ {ds : List (Str × D)} {vs : List (Str × V)}, RF K H ι ds vs → ds.lookup f = some d → ∃ v, vs.lookup f = some v ∧ RD K H ι d v
  | [], _, _, e => by simp at e
  | (k, d') :: ds, _, h, e => by
    obtain ⟨v, r, rfl, q, s⟩ := h
    rw [List.lookup_cons] at e ⊢
    cases hb : f == k with
    | true =>
      rw [hb] at e
      simp at e
      subst e
      exact ⟨v, rfl, q⟩
    | false =>
      rw [hb] at e
      exact RF.lookup s e

def RM (K : PySem.W.Frag) (H : Hp) (ι : List Addr) : MO → Addr → Prop
  | .lst ds, a => ∃ vs, H a = some (.lst vs) ∧ RDs K H ι ds vs
  | .dct kvs, a => ∃ vs, H a = some (.dK vs) ∧ RKs K H ι kvs vs
structure RelS (K : PySem.W.Frag) (H : Hp) (ι : List Addr) (S : SS) : Prop where
  len : ι.length = S.length
  nd : ι.Nodup
  «at» : ∀ (k : Nat) (o : MO) (a : Addr), S[k]? = some o → ι[k]? = some a → RM K H ι o a
section
variable {K : PySem.W.Frag} {H H' : Hp} {ι ι' : List Addr} {S : SS}
theorem RM.some {o : MO} {a : Addr} (h : RM K H ι o a) : ∃ u, H a = some u ∧ Mut (some u) := by
  cases o with
  | lst ds => obtain ⟨vs, h, _⟩ := h; exact ⟨_, h, trivial⟩
  | dct ds => obtain ⟨vs, h, _⟩ := h; exact ⟨_, h, trivial⟩
theorem RM.mono {o : MO} {a : Addr} (g : Gr K H ι H' ι') (e : H' a = H a) (h : RM K H ι o a) : RM K H' ι' o a := by
  cases o with
  | lst ds => obtain ⟨vs, h, r⟩ := h; exact ⟨vs, e.trans h, r.mono g⟩
  | dct ds => obtain ⟨vs, h, r⟩ := h; exact ⟨vs, e.trans h, r.mono g⟩
theorem RelS.find (r : RelS K H ι S) {k : Nat} {o : MO} (e : S[k]? = some o) : ∃ a, ι[k]? = some a ∧ RM K H ι o a := by
  have hk := (List.getElem?_eq_some_iff.mp e).1
  rw [← r.len] at hk
  exact ⟨ι[k], List.getElem?_eq_getElem hk, r.at k o _ e (List.getElem?_eq_getElem hk)⟩
theorem RelS.mem (r : RelS K H ι S) {a : Addr} (h : a ∈ ι) : ∃ u, H a = some u ∧ Mut (some u) := by
  obtain ⟨k, hk⟩ := List.getElem?_of_mem h
  have hl := (List.getElem?_eq_some_iff.mp hk).1
  rw [r.len] at hl
  exact (r.at k _ a (List.getElem?_eq_getElem hl) hk).some
theorem RelS.fresh (r : RelS K H ι S) {p : Addr} (h : H p = none) : p ∉ ι := fun z => by
  obtain ⟨u, e, _⟩ := r.mem z
  rw [h] at e; cases e
theorem sqt_upd {a p : Addr} {o : HO} {vs : List V} (hn : ∀ u, H p = some u → Mut (some u)) (h : SqT K H a vs) : SqT K (upd H p o) a vs := by
  rcases h with h | h
  · left
    have ne : a ≠ p := fun e => by
      subst e
      rcases h with h | ⟨o, h⟩
      · exact hn _ h
      · exact hn _ h
    rcases h with h | ⟨ob, h⟩
    · exact .inl (by rw [upd_ne ne]; exact h)
    · exact .inr ⟨ob, by rw [upd_ne ne]; exact h⟩
  · exact .inr h
theorem frz_upd {a p : Addr} {o : HO} {vs : List V} (hn : ∀ u, H p = some u → Mut (some u)) (h : FrzL K H a vs) : FrzL K (upd H p o) a vs := by
  rcases h with ⟨ob, h⟩ | h
  · have ne : a ≠ p := fun e => by
      subst e
      exact hn _ h
    exact .inl ⟨ob, by rw [upd_ne ne]; exact h⟩
  · exact .inr h
/-- a new tuple -/
theorem Gr.new {p : Addr} {o : HO} (h : H p = none) : Gr K H ι (upd H p o) ι :=
  ⟨fun a vs q => sqt_upd (fun u e => by rw [h] at e; cases e) q, fun a vs q => frz_upd (fun u e => by rw [h] at e; cases e) q, List.prefix_refl _⟩
theorem RelS.new {p : Addr} {o : HO} (r : RelS K H ι S) (h : H p = none) : RelS K (upd H p o) ι S :=
  ⟨r.len, r.nd, fun k ob a e q => (r.at k ob a e q).mono (Gr.new h) (upd_ne fun z => r.fresh h (z ▸ List.mem_of_getElem? q))⟩
/-- a new object of the store -/
theorem Gr.push {p : Addr} {o : HO} (h : H p = none) : Gr K H ι (upd H p o) (ι ++ [p]) :=
  ⟨(Gr.new (ι := ι) h).tup, (Gr.new (ι := ι) h).frz, List.prefix_append _ _⟩
theorem RelS.push {p : Addr} {o : HO} {ob : MO} (r : RelS K H ι S) (h : H p = none) (hm : RM K (upd H p o) (ι ++ [p]) ob p) : RelS K (upd H p o) (ι ++ [p]) (S ++ [ob]) := by
  refine ⟨by rw [List.length_append, List.length_append, r.len]; rfl, ?_, fun k ob' a e q => ?_⟩
  · rw [List.nodup_append]
    refine ⟨r.nd, by simp, fun a ha b hb => ?_⟩
    have : b = p := by simpa using hb
    subst this
    exact fun z => r.fresh h (z ▸ ha)
  · by_cases hk : k < S.length
    · rw [List.getElem?_append_left hk] at e
      rw [List.getElem?_append_left (by rw [r.len]; exact hk)] at q
      exact (r.at k ob' a e q).mono (Gr.push h) (upd_ne fun z => r.fresh h (z ▸ List.mem_of_getElem? q))
    · have hk2 : k < (S ++ [ob]).length := (List.getElem?_eq_some_iff.mp e).1
      rw [List.length_append] at hk2
      have : k = S.length := by simp at hk2; omega
      subst this
      simp at e
      subst e
      rw [← r.len] at q
      simp at q
      subst q
      exact hm
/-- an object of the store written -/
theorem Gr.write {p : Addr} {o : HO} {k : Nat} (r : RelS K H ι S) (h : ι[k]? = some p) : Gr K H ι (upd H p o) ι := by
  obtain ⟨u, hu, hm⟩ := r.mem (List.mem_of_getElem? h)
  have hn : ∀ u, H p = some u → Mut (some u) := fun u' e => by rw [hu] at e; cases e; exact hm
  exact ⟨fun a vs q => sqt_upd hn q, fun a vs q => frz_upd hn q, List.prefix_refl _⟩
theorem RelS.write {p : Addr} {o : HO} {k : Nat} {ob : MO} (r : RelS K H ι S) (h : ι[k]? = some p) (hm : RM K (upd H p o) ι ob p) : RelS K (upd H p o) ι (S.set k ob) := by
  refine ⟨by rw [List.length_set]; exact r.len, r.nd, fun j ob' a e q => ?_⟩
  by_cases hj : j = k
  · subst hj
    rw [h] at q; cases q
    have hl : j < S.length := by rw [← r.len]; exact (List.getElem?_eq_some_iff.mp h).1
    rw [List.getElem?_set_self hl] at e
    cases e
    exact hm
  · rw [List.getElem?_set_ne (Ne.symm hj)] at e
    refine (r.at j ob' a e q).mono (Gr.write r h) (upd_ne fun z => hj ?_)
    subst z
    have h1 := List.getElem?_eq_some_iff.mp h
    have h2 := List.getElem?_eq_some_iff.mp q
    exact (List.getElem_inj r.nd).mp (h2.2.trans h1.2.symm)
/-- the store cut back -/
theorem RelS.cut {n : Nat} (r : RelS K H ι S) (ι0 : List Addr) (hp : ι0 <+: ι) (hn : ι0.length = n) (hm : ∀ (k : Nat) (o : MO) (a : Addr), k < n → S[k]? = some o → ι0[k]? = some a → RM K H ι0 o a) : RelS K H ι0 (S.take n) := by
  obtain ⟨t, rfl⟩ := hp
  have hl := r.len
  rw [List.length_append] at hl
  refine ⟨by rw [List.length_take, hn]; omega, (List.nodup_append.mp r.nd).1, fun k o a e q => ?_⟩
  have hk : k < n := by
    have := (List.getElem?_eq_some_iff.mp e).1
    rw [List.length_take] at this
    omega
  rw [List.getElem?_take_of_lt hk] at e
  exact hm k o a hk e q
end

/-- the slots -/
def ROs (K : PySem.W.Frag) (H : Hp) (ι : List Addr) (δ : Sl) (σ : St) : Prop :=
  δ.length = σ.length ∧ ∀ (i : Nat) d, δ[i]? = some (some d) → ∃ v, σ[i]? = some (some v) ∧ RD K H ι d v
section
variable {K : PySem.W.Frag} {H H' : Hp} {ι ι' : List Addr} {δ : Sl} {σ : St}
theorem ROs.mono (g : Gr K H ι H' ι') (r : ROs K H ι δ σ) : ROs K H' ι' δ σ :=
  ⟨r.1, fun i d e => let ⟨v, h1, h2⟩ := r.2 i d e; ⟨v, h1, h2.mono g⟩⟩
theorem ROs.set {i : Nat} {d : D} {v : V} (r : ROs K H ι δ σ) (h : RD K H ι d v) : ROs K H ι (δ.set i (some d)) (σ.set i (some v)) := by
  refine ⟨by rw [List.length_set, List.length_set, r.1], fun j e he => ?_⟩
  by_cases hj : j = i
  · subst hj
    have hl : j < δ.length := by
      have := (List.getElem?_eq_some_iff.mp he).1
      rwa [List.length_set] at this
    rw [List.getElem?_set_self hl] at he
    cases he
    exact ⟨v, List.getElem?_set_self (by rw [← r.1]; exact hl), h⟩
  · rw [List.getElem?_set_ne (Ne.symm hj)] at he ⊢
    exact r.2 j e he
theorem ROs.none {i : Nat} (r : ROs K H ι δ σ) : ROs K H ι (δ.set i none) (σ.set i none) := by
  refine ⟨by rw [List.length_set, List.length_set, r.1], fun j e he => ?_⟩
  by_cases hj : j = i
  · subst hj
    have hl : j < δ.length := by
      have := (List.getElem?_eq_some_iff.mp he).1
      rwa [List.length_set] at this
    rw [List.getElem?_set_self hl] at he
    cases he
  · rw [List.getElem?_set_ne (Ne.symm hj)] at he ⊢
    exact r.2 j e he
end

/-! ### results -/
inductive R (α : Type) where
  | ok (x : α) (S : SS)
  | exc (C : Addr) (fs : List (Str × D)) (S : SS)
  | bad
def R.bind {α β : Type} : R α → (α → SS → R β) → R β
  | .ok x S, k => k x S
  | .exc C fs S, _ => .exc C fs S
  | .bad, _ => .bad
@[simp] theorem R.bind_ok {α β : Type} {x : α} {S : SS} {k : α → SS → R β} : (R.ok x S).bind k = k x S := rfl
@[simp] theorem R.bind_exc {α β : Type} {C : Addr} {fs : List (Str × D)} {S : SS} {k : α → SS → R β} : (R.exc C fs S : R α).bind k = .exc C fs S := rfl
@[simp] theorem R.bind_bad {α β : Type} {k : α → SS → R β} : (R.bad : R α).bind k = .bad := rfl

/-- what is wanted of a result -/
def Post {α β : Type} (rel : Hp → List Addr → α → β → Prop) (K : PySem.W.Frag) (W : WX) (ι : List Addr) (H : Hp) (σ : St) (r : R α) (Q : β → Hp → Prop) : Prop :=
  match r with
  | .ok x S' => ∀ v H' ι', Gr K H ι H' ι' → RelS K H' ι' S' → rel H' ι' x v → Q v H'
  | .exc C fs S' => ∀ H' ι' dd fs', Gr K H ι H' ι' → RelS K H' ι' S' → H' dd = some (.xd fs') → RF K H' ι' fs fs' → W (.ref C) (some dd) σ H'
  | .bad => False
section
variable {α β α' β' : Type} {rel : Hp → List Addr → α → β → Prop} {rel' : Hp → List Addr → α' → β' → Prop} {K : PySem.W.Frag} {W : WX} {ι ι1 : List Addr} {H H1 : Hp} {σ : St}
theorem Post.mono {r : R α} {Q Q' : β → Hp → Prop} (h : Post rel K W ι H σ r Q) (hq : ∀ v H', Q v H' → Q' v H') : Post rel K W ι H σ r Q' := by
  cases r with
  | ok x S => exact fun v H' ι' g s q => hq _ _ (h v H' ι' g s q)
  | exc C fs S => exact h
  | bad => exact h
/-- further on -/
theorem Post.later {r : R α} {Q : β → Hp → Prop} (g : Gr K H ι H1 ι1) (h : Post rel K W ι H σ r Q) : Post rel K W ι1 H1 σ r Q := by
  cases r with
  | ok x S => exact fun v H' ι' g' s q => h v H' ι' (g.trans g') s q
  | exc C fs S => exact fun H' ι' dd fs' g' => h H' ι' dd fs' (g.trans g')
  | bad => exact h
theorem Post.bind {r : R α} {k : α → SS → R α'} {Q : β' → Hp → Prop} (h : Post rel' K W ι H σ (r.bind k) Q) :
    Post rel K W ι H σ r (fun v H1 => ∃ ι1 S1 x, Gr K H ι H1 ι1 ∧ RelS K H1 ι1 S1 ∧ rel H1 ι1 x v ∧ Post rel' K W ι1 H1 σ (k x S1) Q) := by
  cases r with
  | ok x S => exact fun v H1 ι1 g s q => ⟨ι1, S, x, g, s, q, h.later g⟩
  | exc C fs S => exact h
  | bad => exact h
end

abbrev PEx := Sl → SS → R D
abbrev PAs := Sl → SS → R (List D)
abbrev PTs' := Sl → SS → R Bool
def rB : Hp → List Addr → Bool → Bool → Prop := fun _ _ a b => a = b

def tOf (K : PySem.W.Frag) (W : WX) (f : PEx) : TE := fun σ H Q => ∃ ι S δ, RelS K H ι S ∧ ROs K H ι δ σ ∧ Post (RD K) K W ι H σ (f δ S) Q
def tOfA (K : PySem.W.Frag) (W : WX) (f : PAs) : TA := fun σ H Q => ∃ ι S δ, RelS K H ι S ∧ ROs K H ι δ σ ∧ Post (RDs K) K W ι H σ (f δ S) Q
def tOfT (K : PySem.W.Frag) (W : WX) (f : PTs') : TT := fun σ H Q => ∃ ι S δ, RelS K H ι S ∧ ROs K H ι δ σ ∧ Post rB K W ι H σ (f δ S) Q
theorem PE.imp {X : Cx} {e : Expr} {t t' : TE} (h : PE X e t) (i : ∀ σ H Q, t' σ H Q → t σ H Q) : PE X e t' := ⟨fun pins s σ H Q I q => h.run pins s σ H Q I (i _ _ _ q)⟩
theorem PT.imp {X : Cx} {e : Expr} {t t' : TT} (h : PT X e t) (i : ∀ σ H Q, t' σ H Q → t σ H Q) : PT X e t' := ⟨fun pins s σ H Q I q => h.run pins s σ H Q I (i _ _ _ q)⟩
theorem PA.imp {X : Cx} {e : List Expr} {t t' : TA} (h : PA X e t) (i : ∀ σ H Q, t' σ H Q → t σ H Q) : PA X e t' := ⟨fun pos pins s σ H Q I q => h.run pos pins s σ H Q I (i _ _ _ q)⟩
theorem PS.imp {X : Cx} {e : Stmt} {t t' : TS} (h : PS X e t) (i : ∀ D σ H, t' D σ H → t D σ H) : PS X e t' := ⟨fun pins s σ H D I q => h.run pins s σ H D I (i _ _ _ q)⟩
theorem PSs.imp {X : Cx} {e : List Stmt} {t t' : TS} (h : PSs X e t) (i : ∀ D σ H, t' D σ H → t D σ H) : PSs X e t' := ⟨fun pins s σ H D I q => h.run pins s σ H D I (i _ _ _ q)⟩
end DL
set_option Elab.async false
set_option linter.all false
set_option maxRecDepth 100000
/-! DMul: a tuple times 1; the empty tuple times a number. -/
namespace DL
open PySem PySem.Spec PyProof.Rows L2
theorem tuple_mulS (l : Addr) (items : Array Value) (n : Nat) (dd : Option Addr) (sl : Array (Option Value)) (x : Int) (u : Tok) (c0 : (decide (x < -(2 ^ 63)) || decide (x ≥ 2 ^ 63)) = false) (c1 : (items.isEmpty || x == 1) = true) :
    Meets (Builtin.«tuple.__mul__» ⟨[.ref l, .int x u], []⟩) (fun _ R s => s.heap.get? l = some { cls := .type "tuple", dict := dd, data := .seq items n, slots := sl } ∧ R (.ok (.ret (Value.ref l))) s) :=
  .of_wp fun prog w A R s h => by
    obtain ⟨hp, g, d, tk, os⟩ := s
    obtain ⟨hl, h⟩ := h
    have f1 := AutoSeq1.idx_int
    wp_walk using wpAny_loadPart' hl
    repeat (first
      | (refine wpAny_ite_false (decide_eq_false (by rw [c0]; exact Bool.false_ne_true)) ?_; wp_walk using wpAny_loadPart' hl)
      | (refine wpAny_ite_true (decide_eq_true (by rw [c1])) ?_; wp_walk using wpAny_loadPart' hl))
    exact ⟨_, rfl, h⟩
def rRepS (K : PySem.W.Frag) : R2 := fun x y H Q => ∃ l k xs, x = .ref l ∧ y = .int k ∧ SqT K H l xs ∧ (xs = [] ∨ k = 1) ∧ -(2 ^ 63) ≤ k ∧ k < 2 ^ 63 ∧ Q (.ref l) H
section
variable {X : Cx}
theorem op_repS : OpR X (binaryOp .Mult) (rRepS X.K) := by
  intro pins s σ H x y v u Q I rx ry h
  obtain ⟨l, k, xs, rfl, rfl, hT, h1, h2, h3, q⟩ := h
  cases rx
  obtain ⟨t, rfl⟩ := ry
  obtain ⟨its, r, ⟨⟨cls, dd, data, sl⟩, ho, hc, n, hd⟩, hs⟩ := I.tuple hT
  simp only at hc hd
  subst hc hd
  have hle : its.length = xs.length := r.length.symm
  have c0 : (decide (k < -(2 ^ 63)) || decide (k ≥ 2 ^ 63)) = false := by
    rw [decide_eq_false (by omega), decide_eq_false (by omega)] <;> rfl
  have c1 : (its.toArray.isEmpty || k == 1) = true := by
    rcases h1 with rfl | rfl
    · have : its = [] := List.eq_nil_of_length_eq_zero hle
      subst this
      rfl
    · simp
  refine wpAny_binaryOp_repeat_ref (T := "tuple") (U := "int") (by decide) ⟨_, ho, rfl⟩ (fun s' => typeIs_int s' k t) noFill_tuple_mul F.fills_int_mul F.slot_int_rmul repeat_tuple F.slot_int_index.lookup
    (call_meets F.slot_int_rmul (typeIs_int s k t) F.entry_int_rmul (F.args_int_rmul_2 _ _) (int_rmul_tuple k t l its.toArray n dd sl)
      ⟨ho, rfl, ⟨_, ho, rfl⟩, call_meets F.slot_tuple_mul ⟨_, ho, rfl⟩ F.entry_tuple_mul (F.args_tuple_mul_2 _ _) (tuple_mulS l its.toArray n dd sl k t c0 c1) ⟨ho, ?_⟩⟩)
  exact ⟨.ref l, H, I, rfl, q⟩
end
end DL
set_option Elab.async false
set_option linter.all false
set_option maxRecDepth 100000
/-! DOps: operators and built-ins upon values as trees. -/
namespace DL
open PySem L2

/-! ### the frame of a rule -/
def PostN (K : PySem.W.Frag) (ι : List Addr) (H : Hp) (r : Option (D × SS)) (Q : VK) : Prop :=
  match r with
  | some (x, S') => ∀ v H' ι', Gr K H ι H' ι' → RelS K H' ι' S' → RD K H' ι' x v → Q v H'
  | none => False
def R.ofO : Option (D × SS) → R D
  | some (x, S) => .ok x S
  | none => .bad
section
variable {K : PySem.W.Frag} {W : WX} {ι : List Addr} {H : Hp} {σ : St} {S : SS} {Q : VK}
theorem Post.ofO {r : Option (D × SS)} (h : Post (RD K) K W ι H σ (R.ofO r) Q) : PostN K ι H r Q := by
  cases r with
  | none => exact h
  | some p => exact h
theorem PostN.val {d : D} {v : V} (h : PostN K ι H (some (d, S)) Q) (s : RelS K H ι S) (r : RD K H ι d v) : Q v H := h v H ι Gr.refl s r
theorem PostN.newL {ds : List D} {vs : List V} {p : Addr} (h : PostN K ι H (some (.ref S.length, S ++ [.lst ds])) Q) (s : RelS K H ι S) (r : RDs K H ι ds vs) (hp : H p = none) : Q (.ref p) (upd H p (.lst vs)) := by
  have g : Gr K H ι (upd H p (.lst vs)) (ι ++ [p]) := Gr.push hp
  refine h _ _ (ι ++ [p]) g (s.push hp ⟨vs, upd_same, r.mono g⟩) ?_
  unfold RD
  exact ⟨p, rfl, by rw [← s.len]; simp⟩
theorem PostN.newT {ds : List D} {vs : List V} {p : Addr} (h : PostN K ι H (some (.tup ds, S)) Q) (s : RelS K H ι S) (r : RDs K H ι ds vs) (hp : H p = none) : Q (.ref p) (upd H p (.tup vs)) := by
  have g : Gr K H ι (upd H p (.tup vs)) ι := Gr.new hp
  refine h _ _ ι g (s.new hp) ?_
  unfold RD
  exact ⟨p, vs, rfl, SqT.of upd_same, r.mono g⟩
theorem PostN.write {d : D} {v : V} {k : Nat} {p : Addr} {ds : List D} {vs : List V} (h : PostN K ι H (some (d, S.set k (.lst ds))) Q) (s : RelS K H ι S) (e : ι[k]? = some p) (r : RDs K H ι ds vs) (rd : RD K H ι d v) : Q v (upd H p (.lst vs)) := by
  have g : Gr K H ι (upd H p (.lst vs)) ι := Gr.write s e
  exact h _ _ ι g (s.write e ⟨vs, upd_same, r.mono g⟩) (rd.mono g)
end
abbrev G1 := D → SS → Option (D × SS)
abbrev G2 := D → D → SS → Option (D × SS)
abbrev GL := List D → SS → Option (D × SS)
def rOf2 (K : PySem.W.Frag) (g : G2) : R2 := fun x y H Q => ∃ ι S d e, RelS K H ι S ∧ RD K H ι d x ∧ RD K H ι e y ∧ PostN K ι H (g d e S) Q
def rOf1 (K : PySem.W.Frag) (g : G1) : V → Hp → VK → Prop := fun x H Q => ∃ ι S d, RelS K H ι S ∧ RD K H ι d x ∧ PostN K ι H (g d S) Q
def rOfL (K : PySem.W.Frag) (g : GL) : List V → Hp → VK → Prop := fun xs H Q => ∃ ι S ds, RelS K H ι S ∧ RDs K H ι ds xs ∧ PostN K ι H (g ds S) Q
theorem OpR.imp {X : Cx} {f : Value → Value → Sem Value} {r r' : R2} (h : OpR X f r) (i : ∀ x y H Q, r' x y H Q → r x y H Q) : OpR X f r' :=
  fun pins s σ H x y v u Q I rx ry q => h pins s σ H x y v u Q I rx ry (i _ _ _ _ q)
theorem CallR.imp {X : Cx} {f : Value} {r r' : List V → Hp → VK → Prop} (h : CallR X f r) (i : ∀ xs H Q, r' xs H Q → r xs H Q) : CallR X f r' :=
  fun pins s σ H xs us Q I rx q => h pins s σ H xs us Q I rx (i _ _ _ q)
theorem OpR.nope {X : Cx} {f : Value → Value → Sem Value} {r : R2} (i : ∀ x y H Q, ¬ r x y H Q) : OpR X f r := fun _ _ _ _ _ _ _ _ _ _ _ _ q => (i _ _ _ _ q).elim

/-! ### reading off -/
section
variable {K : PySem.W.Frag} {ι : List Addr} {H : Hp} {v : V}
theorem RD.non (h : RD K H ι .non v) : v = .non := by unfold RD at h; exact h
theorem RD.bl {b : Bool} (h : RD K H ι (.bl b) v) : v = .bl b := by unfold RD at h; exact h
theorem RD.int {i : Int} (h : RD K H ι (.int i) v) : v = .int i := by unfold RD at h; exact h
theorem RD.str {i : Str} (h : RD K H ι (.str i) v) : v = .str i := by unfold RD at h; exact h
theorem RD.ty {i : String} (h : RD K H ι (.ty i) v) : v = .ty i := by unfold RD at h; exact h
theorem RD.gl {i : Addr} (h : RD K H ι (.gl i) v) : v = .ref i := by unfold RD at h; exact h
theorem RD.tup {ds : List D} (h : RD K H ι (.tup ds) v) : ∃ a vs, v = .ref a ∧ SqT K H a vs ∧ RDs K H ι ds vs := by unfold RD at h; exact h
theorem RD.rls {ds : List D} (h : RD K H ι (.rls ds) v) : ∃ a vs, v = .ref a ∧ FrzL K H a vs ∧ RDs K H ι ds vs := by unfold RD at h; exact h
theorem RD.ref {k : Nat} (h : RD K H ι (.ref k) v) : ∃ a, v = .ref a ∧ ι[k]? = some a := by unfold RD at h; exact h
theorem RD.mnon : RD K H ι .non .non := by unfold RD; rfl
theorem RD.mbl {b : Bool} : RD K H ι (.bl b) (.bl b) := by unfold RD; rfl
theorem RD.mint {b : Int} : RD K H ι (.int b) (.int b) := by unfold RD; rfl
theorem RD.mstr {b : Str} : RD K H ι (.str b) (.str b) := by unfold RD; rfl
theorem RD.mty {b : String} : RD K H ι (.ty b) (.ty b) := by unfold RD; rfl
/-- a list of the store -/
theorem RelS.lst {S : SS} {k : Nat} {ds : List D} (s : RelS K H ι S) (e : S[k]? = some (.lst ds)) (h : RD K H ι (.ref k) v) : ∃ a vs, v = .ref a ∧ ι[k]? = some a ∧ H a = some (.lst vs) ∧ RDs K H ι ds vs := by
  obtain ⟨a, rfl, q⟩ := h.ref
  obtain ⟨vs, h1, h2⟩ := s.at k _ a e q
  exact ⟨a, vs, rfl, q, h1, h2⟩
end

/-! ### the items of a list or a tuple -/
/-- what may be gone through: its items -/
def seqD (d : D) (S : SS) : Option (List D) := match d with
  | .tup ds => some ds
  | .rls ds => some ds
  | .ref k => match S[k]? with
    | some (.lst ds) => some ds
    | _ => none
  | _ => none
theorem seqD_ok {K : PySem.W.Frag} {ι : List Addr} {H : Hp} {v : V} {S : SS} {d : D} {ds : List D} (s : RelS K H ι S) (r : RD K H ι d v) (h : seqD d S = some ds) : ∃ a vs, v = .ref a ∧ (SqL K H a vs ∨ SqT K H a vs) ∧ RDs K H ι ds vs := by
  cases d with
  | tup es =>
    have : es = ds := by simpa [seqD] using h
    subst this
    obtain ⟨a, vs, h1, h2, h3⟩ := r.tup
    exact ⟨a, vs, h1, .inr h2, h3⟩
  | rls es =>
    have : es = ds := by simpa [seqD] using h
    subst this
    obtain ⟨a, vs, h1, h2, h3⟩ := r.rls
    exact ⟨a, vs, h1, .inl h2.sq, h3⟩
  | ref k =>
    have h : (match S[k]? with | some (.lst ds) => some ds | _ => none) = some ds := h
    split at h
    · rename_i es e
      cases h
      obtain ⟨a, vs, h1, h2, h3, h4⟩ := s.lst e r
      exact ⟨a, vs, h1, .inl (SqL.of h3), h4⟩
    · cases h
  | _ => simp [seqD] at h

/-! ### numbers -/
def addD : G2
  | .int i, .int j, S => some (.int (i + j), S)
  | .str x, .str y, S => if x.length + y.length ≤ sizeLine then some (.str (x ++ y), S) else none
  | .tup xs, .tup ys, S => if xs.length + ys.length ≤ sizeLine then some (.tup (xs ++ ys), S) else none
  | .ref k, .ref l, S => match S[k]?, S[l]? with
    | some (.lst xs), some (.lst ys) => if xs.length + ys.length ≤ sizeLine then some (.ref S.length, S ++ [.lst (xs ++ ys)]) else none
    | _, _ => none
  | _, _, _ => none
def subD : G2
  | .int i, .int j, S => some (.int (i - j), S)
  | _, _, _ => none
/-- factors of together less than a million bits -/
def MulOk (i j : Int) : Prop := i.natAbs.log2 + j.natAbs.log2 < 1000000
instance (i j : Int) : Decidable (MulOk i j) := by unfold MulOk; infer_instance
def mulD : G2
  | .int i, .int j, S => if MulOk i j then some (.int (i * j), S) else none
  | .tup xs, .int k, S => if xs ≠ [] ∧ 2 ≤ k ∧ k ≤ 1000 ∧ xs.length ≤ 1000 then some (.tup (List.replicate k.toNat xs).flatten, S) else if (xs = [] ∨ k = 1) ∧ -(2 ^ 63) ≤ k ∧ k < 2 ^ 63 then some (.tup xs, S) else none
  | .ref l, .int k, S => match S[l]? with
    | some (.lst xs) => if -(2 ^ 63) ≤ k ∧ k < 2 ^ 63 ∧ xs.length * k.toNat ≤ sizeLine then some (.ref S.length, S ++ [.lst (List.replicate k.toNat xs).flatten]) else none
    | _ => none
  | _, _, _ => none
def DivOk (j : Int) : Prop := j ≠ 0 ∧ j.natAbs.log2 < 9000
instance (j : Int) : Decidable (DivOk j) := by unfold DivOk; infer_instance
def fdivD : G2
  | .int i, .int j, S => if DivOk j then some (.int (i.fdiv j), S) else none
  | _, _, _ => none
def modD : G2
  | .int i, .int j, S => if j ≠ 0 then some (.int (i.fmod j), S) else none
  | _, _, _ => none
def powD : G2
  | .int i, .int j, S => if 0 ≤ j ∧ j ≤ 1000000 ∧ i.natAbs < 2 ^ 64 then some (.int (i ^ j.toNat), S) else none
  | _, _, _ => none
def shlD : G2
  | .int i, .int j, S => if 0 ≤ j ∧ j ≤ 1000000 ∧ i.natAbs < 2 ^ 64 then some (.int (i * 2 ^ j.toNat), S) else none
  | _, _, _ => none
def shrD : G2
  | .int i, .int j, S => if 0 ≤ j then some (.int (i / 2 ^ j.toNat), S) else none
  | _, _, _ => none
def andD : G2
  | .int i, .int j, S => some (.int (Builtin.bitAnd i j), S)
  | _, _, _ => none
def orD : G2
  | .int i, .int j, S => some (.int (Builtin.bitOr i j), S)
  | _, _, _ => none

theorem flat_rds {K : PySem.W.Frag} {ι : List Addr} {H : Hp} {ds : List D} {vs : List V} (r : RDs K H ι ds vs) : ∀ n : Nat, RDs K H ι (List.replicate n ds).flatten (List.replicate n vs).flatten
  | 0 => by simp; exact RDs.nil
  | n + 1 => by
    rw [List.replicate_succ, List.replicate_succ, List.flatten_cons, List.flatten_cons]
    exact r.append (flat_rds r n)
section
variable {X : Cx}
theorem od_add : OpR X (binaryOp .Add) (rOf2 X.K addD) := by
  intro pins s σ H x y v u Q I rx ry h
  obtain ⟨ι, S, d, e, rs, r1, r2, q⟩ := h
  unfold addD at q
  split at q
  · rw [r1.int] at rx
    rw [r2.int] at ry
    exact op_add pins s σ H _ _ v u Q I rx ry ⟨_, _, rfl, rfl, q.val rs RD.mint⟩
  · split at q
    · rw [r1.str] at rx
      rw [r2.str] at ry
      rename_i hl
      exact op_add_str pins s σ H _ _ v u Q I rx ry ⟨_, _, rfl, rfl, hl, q.val rs RD.mstr⟩
    · exact q.elim
  · split at q
    · rename_i _ xs ys hl
      obtain ⟨a, vs, rfl, t1, l1⟩ := r1.tup
      obtain ⟨b, us, rfl, t2, l2⟩ := r2.tup
      have e1 := l1.length
      have e2 := l2.length
      refine op_catA pins s σ H _ _ v u Q I rx ry ⟨a, b, vs, us, rfl, rfl, t1, t2, by omega, fun z => ?_, fun z1 z2 => ?_, fun z1 z2 p hp => q.newT rs (l1.append l2) hp⟩
      · subst z
        have : xs = [] := List.length_eq_zero_iff.mp e1
        subst this
        exact q.val rs r2
      · subst z2
        have : ys = [] := List.length_eq_zero_iff.mp e2
        subst this
        rw [List.append_nil] at q
        exact q.val rs r1
    · exact q.elim
  · split at q
    · split at q
      · rename_i xs ys h1 h2 hl
        obtain ⟨a, vs, rfl, _, t1, l1⟩ := rs.lst h1 r1
        obtain ⟨b, us, rfl, _, t2, l2⟩ := rs.lst h2 r2
        have e1 := l1.length
        have e2 := l2.length
        exact op_cat pins s σ H _ _ v u Q I rx ry ⟨a, b, vs, us, rfl, rfl, t1, t2, by omega, fun p hp => q.newL rs (l1.append l2) hp⟩
      · exact q.elim
    · exact q.elim
  · exact q.elim
theorem od_sub : OpR X (binaryOp .Sub) (rOf2 X.K subD) := by
  intro pins s σ H x y v u Q I rx ry h
  obtain ⟨ι, S, d, e, rs, r1, r2, q⟩ := h
  unfold subD at q
  split at q
  · rw [r1.int] at rx
    rw [r2.int] at ry
    exact op_sub pins s σ H _ _ v u Q I rx ry ⟨_, _, rfl, rfl, q.val rs RD.mint⟩
  · exact q.elim
theorem od_mul : OpR X (binaryOp .Mult) (rOf2 X.K mulD) := by
  intro pins s σ H x y v u Q I rx ry h
  obtain ⟨ι, S, d, e, rs, r1, r2, q⟩ := h
  unfold mulD at q
  split at q
  · split at q
    · rename_i hm
      rw [r1.int] at rx
      rw [r2.int] at ry
      exact op_mulW pins s σ H _ _ v u Q I rx ry ⟨_, _, rfl, rfl, hm, q.val rs RD.mint⟩
    · exact q.elim
  · split at q
    · rename_i hc
      obtain ⟨c1, c2, c3, c4⟩ := hc
      obtain ⟨a, vs, rfl, t1, l1⟩ := r1.tup
      rw [r2.int] at ry
      have e1 := l1.length
      refine op_repT pins s σ H _ _ v u Q I rx ry ⟨a, _, vs, rfl, rfl, t1, fun z => c1 ?_, c2, c3, by omega, fun p hp => q.newT rs (flat_rds l1 _) hp⟩
      subst z
      exact List.length_eq_zero_iff.mp e1
    · split at q
      · rename_i hc
        obtain ⟨c1, c2, c3⟩ := hc
        obtain ⟨a, vs, rfl, t1, l1⟩ := r1.tup
        rw [r2.int] at ry
        have e1 := l1.length
        refine op_repS pins s σ H _ _ v u Q I rx ry ⟨a, _, vs, rfl, rfl, t1, ?_, c2, c3, q.val rs (by unfold RD; exact ⟨a, vs, rfl, t1, l1⟩)⟩
        rcases c1 with rfl | h
        · exact .inl (List.length_eq_zero_iff.mp e1.symm)
        · exact .inr h
      · exact q.elim
  · split at q
    · split at q
      · rename_i h1 hc
        obtain ⟨c1, c2, c3⟩ := hc
        obtain ⟨a, vs, rfl, _, t1, l1⟩ := rs.lst h1 r1
        rw [r2.int] at ry
        have e1 := l1.length
        exact op_rep pins s σ H _ _ v u Q I rx ry ⟨a, _, vs, rfl, rfl, t1, c1, c2, by rw [← e1]; exact c3, fun p hp => q.newL rs (flat_rds l1 _) hp⟩
      · exact q.elim
    · exact q.elim
  · exact q.elim
theorem od_fdiv : OpR X (binaryOp .FloorDiv) (rOf2 X.K fdivD) := by
  intro pins s σ H x y v u Q I rx ry h
  obtain ⟨ι, S, d, e, rs, r1, r2, q⟩ := h
  unfold fdivD at q
  split at q
  · split at q
    · rename_i hm
      rw [r1.int] at rx
      rw [r2.int] at ry
      obtain ⟨t, rfl⟩ := rx
      obtain ⟨t', rfl⟩ := ry
      exact PyProof.Rows.floordiv_int hm.1 ⟨.int _, H, I.tok _, ⟨_, rfl⟩, q.val rs RD.mint⟩ (.inl (PyProof.noPylong_of_log2 hm.2))
    · exact q.elim
  · exact q.elim
theorem od_mod : OpR X (binaryOp .Mod) (rOf2 X.K modD) := by
  intro pins s σ H x y v u Q I rx ry h
  obtain ⟨ι, S, d, e, rs, r1, r2, q⟩ := h
  unfold modD at q
  split at q
  · split at q
    · rename_i hm
      rw [r1.int] at rx
      rw [r2.int] at ry
      exact op_modN pins s σ H _ _ v u Q I rx ry ⟨_, _, rfl, rfl, hm, q.val rs RD.mint⟩
    · exact q.elim
  · exact q.elim
theorem od_pow : OpR X (binaryOp .Pow) (rOf2 X.K powD) := by
  intro pins s σ H x y v u Q I rx ry h
  obtain ⟨ι, S, d, e, rs, r1, r2, q⟩ := h
  unfold powD at q
  split at q
  · split at q
    · rename_i hm
      rw [r1.int] at rx
      rw [r2.int] at ry
      exact op_pow pins s σ H _ _ v u Q I rx ry ⟨_, _, rfl, rfl, hm, q.val rs RD.mint⟩
    · exact q.elim
  · exact q.elim
theorem od_shl : OpR X (binaryOp .LShift) (rOf2 X.K shlD) := by
  intro pins s σ H x y v u Q I rx ry h
  obtain ⟨ι, S, d, e, rs, r1, r2, q⟩ := h
  unfold shlD at q
  split at q
  · split at q
    · rename_i hm
      rw [r1.int] at rx
      rw [r2.int] at ry
      exact op_shl pins s σ H _ _ v u Q I rx ry ⟨_, _, rfl, rfl, hm, q.val rs RD.mint⟩
    · exact q.elim
  · exact q.elim
theorem od_shr : OpR X (binaryOp .RShift) (rOf2 X.K shrD) := by
  intro pins s σ H x y v u Q I rx ry h
  obtain ⟨ι, S, d, e, rs, r1, r2, q⟩ := h
  unfold shrD at q
  split at q
  · split at q
    · rename_i hm
      rw [r1.int] at rx
      rw [r2.int] at ry
      exact op_shr pins s σ H _ _ v u Q I rx ry ⟨_, _, rfl, rfl, hm, q.val rs RD.mint⟩
    · exact q.elim
  · exact q.elim
theorem od_and : OpR X (binaryOp .BitAnd) (rOf2 X.K andD) := by
  intro pins s σ H x y v u Q I rx ry h
  obtain ⟨ι, S, d, e, rs, r1, r2, q⟩ := h
  unfold andD at q
  split at q
  · rw [r1.int] at rx
    rw [r2.int] at ry
    exact op_and pins s σ H _ _ v u Q I rx ry ⟨_, _, rfl, rfl, q.val rs RD.mint⟩
  · exact q.elim
theorem od_or : OpR X (binaryOp .BitOr) (rOf2 X.K orD) := by
  intro pins s σ H x y v u Q I rx ry h
  obtain ⟨ι, S, d, e, rs, r1, r2, q⟩ := h
  unfold orD at q
  split at q
  · rw [r1.int] at rx
    rw [r2.int] at ry
    exact op_or pins s σ H _ _ v u Q I rx ry ⟨_, _, rfl, rfl, q.val rs RD.mint⟩
  · exact q.elim
end
/-- the operators -/
def binD : Operator → G2
  | .Add => addD
  | .Sub => subD
  | .Mult => mulD
  | .FloorDiv => fdivD
  | .Mod => modD
  | .Pow => powD
  | .LShift => shlD
  | .RShift => shrD
  | .BitAnd => andD
  | .BitOr => orD
  | _ => fun _ _ _ => none
theorem od_bin {X : Cx} : ∀ op : Operator, OpR X (binaryOp op) (rOf2 X.K (binD op))
  | .Add => od_add
  | .Sub => od_sub
  | .Mult => od_mul
  | .FloorDiv => od_fdiv
  | .Mod => od_mod
  | .Pow => od_pow
  | .LShift => od_shl
  | .RShift => od_shr
  | .BitAnd => od_and
  | .BitOr => od_or
  | .MatMult => OpR.nope fun _ _ _ _ ⟨_, _, _, _, _, _, _, q⟩ => q
  | .Div => OpR.nope fun _ _ _ _ ⟨_, _, _, _, _, _, _, q⟩ => q
  | .BitXor => OpR.nope fun _ _ _ _ ⟨_, _, _, _, _, _, _, q⟩ => q
end DL
set_option Elab.async false
set_option linter.all false
set_option maxRecDepth 100000
set_option maxHeartbeats 1000000
/-! DEnum: enumerate over a tuple; the sum of a tuple. -/
namespace DL
open PySem PySem.Spec PyProof.Rows L2
open AutoSeq1 (wpAny_loadPart')
theorem enu_newT (l : Addr) (items : Array Value) (n : Nat) (dct : Option Addr) (sl : Array (Option Value)) :
    Meets (Builtin.«enumerate.__new__» ⟨[.type "enumerate", .ref l], []⟩) (fun _ R s => s.heap.get? l = some { cls := .type "tuple", dict := dct, data := .seq items n, slots := sl } ∧
      R (.ok (.ret (.ref (s.heap.push { cls := .type "tuple_iterator", data := .fields #[.ref l, .int 0 0] }).objs.size)))
        { s with heap := (s.heap.push { cls := .type "tuple_iterator", data := .fields #[.ref l, .int 0 0] }).push { cls := .type "enumerate", data := .fields #[.none, .bool false, .ref s.heap.objs.size, rawInt 0, .none, .none] } }) :=
  .of_wp fun prog w A R s h => by
    obtain ⟨hp, g, d, tk, os⟩ := s; obtain ⟨hl, h⟩ := h
    have hsub := sub_enumerate
    have hL : Heap.IsTuple (Shared.heap ⟨hp, g, d, tk, os⟩) l items := ⟨_, hl, rfl, n, rfl⟩
    wp_walk using wpAny_loadPart' hl
    refine wpAny_stack_any fun st => wpAny_pure ?_
    split
    · rename_i c _ _ _ _ _
      cases (c == Value.type "enumerate")
      · wp_walk using wpAny_loadPart' hl, wpAny_pyIter_tuple hL
        exact ⟨_, rfl, h⟩
      · wp_walk using wpAny_loadPart' hl, wpAny_pyIter_tuple hL
        exact ⟨_, rfl, h⟩
    · wp_walk using wpAny_loadPart' hl, wpAny_pyIter_tuple hL
      exact ⟨_, rfl, h⟩
section
variable {prog : Program} {w : World} {A : Around} {E : Value → Shared → Prop} {s : Shared}
theorem call_enumT {l : Addr} {items : Array Value} {Q : Value → Shared → Prop} (hL : s.heap.IsTuple l items)
    (h : ∀ h', IsEnum h' (s.heap.objs.size + 1) s.heap.objs.size 0 .none → h'.IsTupleIter s.heap.objs.size l 0 → h'.objs.size = s.heap.objs.size + 2 →
      (∀ b o, s.heap.get? b = some o → h'.get? b = some o) → Q (.ref (s.heap.objs.size + 1)) { s with heap := h' }) :
    wpAny (model prog w) A (call (.type "enumerate") [.ref l]) Q E s := by
  obtain ⟨⟨c, dct, dt, sl⟩, hl, hc, n, hd⟩ := hL
  replace hc : c = .type "tuple" := hc
  replace hd : dt = .seq items n := hd
  subst hc hd
  refine callType_new F.called_enumerate (by decide) (F.typeCall_enumerate_1 _) (F.newCall_enumerate_1 _) (fun obj => F.args_object_init_2 obj _) F.entry_enumerate_new
    (enu_newT l items n dct sl) ⟨hl, ?_⟩
  have hz : (s.heap.push { cls := .type "tuple_iterator", data := .fields #[.ref l, .int 0 0] }).objs.size = s.heap.objs.size + 1 := Heap.size_push ..
  show _ ∧ _
  rw [hz]
  have he : IsEnum ((s.heap.push { cls := .type "tuple_iterator", data := .fields #[.ref l, .int 0 0] }).push
      { cls := .type "enumerate", data := .fields #[.none, .bool false, .ref s.heap.objs.size, rawInt 0, .none, .none] }) (s.heap.objs.size + 1) s.heap.objs.size 0 .none := by
    have := Heap.get?_push_size (s.heap.push { cls := .type "tuple_iterator", data := .fields #[.ref l, .int 0 0] })
      (o := { cls := .type "enumerate", data := .fields #[.none, .bool false, .ref s.heap.objs.size, rawInt 0, .none, .none] }) rfl
    rw [hz] at this; exact this
  refine ⟨⟨_, he, rfl⟩, h _ he ⟨_, Heap.get?_push_of_some _ (Heap.get?_push_size _ rfl), rfl, rfl⟩ (by rw [Heap.size_push, hz]) fun b o x => Heap.get?_push_of_some _ (Heap.get?_push_of_some _ x)⟩
end
/-- the tuple at a, each item in a new pair -/
def IteT (K : PySem.W.Frag) (a : Addr) : It :=
  ⟨fun i H => ∃ (xs : List V) (x : V), SqT K H a xs ∧ xs[i]? = some x, fun i H v H' => ∃ T x, v = .ref T ∧ H T = none ∧ H' = upd H T (.tup [.int (i : Nat), x]) ∧ ∀ xs, SqT K H a xs → xs[i]? = some x, fun i H => ∃ xs : List V, SqT K H a xs ∧ xs.length ≤ i⟩
theorem turn_enumT {P : Program} {w : World} {K : PySem.W.Frag} {elts : List Expr} {kk : Nat} {tpos : Pos} (a e it : Addr) (hai : a ≠ it) (hea : e ≠ a) :
    Turn P w K (.Tuple elts kk tpos) (IteT K a) [e, it] e (fun i h => (∃ old, IsEnum h e it ((i : Nat) : Int) old) ∧ h.IsTupleIter it a i ∧ e ≠ it) where
  mem := by simp
  obj := fun i h st b hb => by
    obtain ⟨⟨old, he⟩, ⟨o, ho, hc, hd⟩, _⟩ := st
    have e' : b = e ∨ b = it := by simpa using hb
    rcases e' with z | z
    · rw [z]; exact ⟨_, he, fun v q => nomatch q⟩
    · rw [z]; exact ⟨o, ho, fun v q => by rw [hd] at q; cases q⟩
  keep := fun i h h' st k => let ⟨⟨old, he⟩, hi, hne⟩ := st; ⟨⟨old, k e (by simp) _ he⟩, hi.at fun o q => k it (by simp) o q, hne⟩
  item := by
    intro X hP hw hK hc i pins s σ H E I hf st hg
    subst hP hw hK
    obtain ⟨⟨old, he⟩, hit, hne⟩ := st
    obtain ⟨xs, x, hq, hx⟩ := hg
    obtain ⟨its, rv, p, hz⟩ := I.tuple hq
    obtain ⟨u, hu, ru⟩ := rv.get hx
    have hel : e < s.heap.objs.size := Heap.lt_size he
    have hil : it < s.heap.objs.size := by obtain ⟨_, q, _⟩ := hit; exact Heap.lt_size q
    have p' : s.heap.IsTuple a its.toArray := p
    have hlt : i < its.toArray.size := by
      have := (List.getElem?_eq_some_iff.mp hu).1
      simpa using this
    refine wpAny_pyNext_enum_itemD (Draws.tuple (A := X.A.in1) (I.ok.hd hc) it a hai its.toArray) he ⟨hit, p'⟩ hlt hne (by simp [hne, hea]) fun x' h' tk hP ho st' hT hsz hk => ?_
    have hx' : x' = u := by
      have h1 : its.toArray[i]? = some x' := hP
      have h2 : its.toArray[i]? = some u := by simpa using hu
      rw [h1] at h2
      exact Option.some.inj h2
    subst hx'
    have hit' := st'.1
    refine ⟨_, rfl, wpAny_letOwnedTupleGo_enum (s := { s with heap := h', toks := tk + 1 }) ho fun h'' he' sb => ?_⟩
    have hT2 : h''.get? s.heap.objs.size = some { cls := .type "tuple", data := .seq #[.int i tk, x'] } := (sb.2 _ (Nat.ne_of_gt hel)).trans hT
    have new : ObjOk X.prog X.w (upd H s.heap.objs.size (.tup [.int (i : Nat), x])) h'' s.heap.objs.size (.tup [.int (i : Nat), x]) :=
      ⟨by show 2 ≤ sizeLine; decide, [.int i tk, x'], .cons ⟨_, rfl⟩ (.cons ru .nil), ⟨_, hT2, rfl, _, rfl⟩⟩
    have I1 : Inv X pins σ (upd H s.heap.objs.size (.tup [.int (i : Nat), x])) { s with heap := h'', toks := tk + 1 } :=
      I.turnedNew (ch := [e, it]) (fun b ob hb q => (sb.2 b (fun z => hb (by simp [z]))).trans (hk b ob (fun z => hb (by simp [z])) (fun z => hb (by simp [z])) q)) hf (Nat.le_refl _) new
    refine ⟨.ref s.heap.objs.size, _, I1, rfl, ⟨_, x, rfl, I.hok.fresh (Nat.le_refl _), rfl, fun ys hy => by rw [I.tuple_inj hy hq]; exact hx⟩, ⟨⟨x', ?_⟩, hit'.at fun o q => (sb.2 it (Ne.symm hne)).trans q, hne⟩, fun b hb => ?_⟩
    · have e1 : ((i + 1 : Nat) : Int) = (i : Int) + 1 := by omega
      rw [e1]; exact he'
    · have hb' : b < s.heap.objs.size := by
        have e' : b = e ∨ b = it := by simpa using hb
        rcases e' with z | z
        · rw [z]; exact hel
        · rw [z]; exact hil
      rw [upd_ne (Nat.ne_of_lt hb')]
      exact (hf b hb).1
  done := by
    intro X hP hw hK hc i pins s σ H E I hf st hg
    subst hP hw hK
    obtain ⟨⟨old, he⟩, hit, hne⟩ := st
    obtain ⟨xs, hq, hx⟩ := hg
    obtain ⟨its, rv, p, hz⟩ := I.tuple hq
    obtain ⟨f0, f1, f2, f3, f4, f5⟩ := hf it (by simp)
    have hl := rv.length
    have p' : s.heap.IsTuple a its.toArray := p
    have hT : s.TypeIs (.ref e) "enumerate" := ⟨_, he, rfl⟩
    unfold pyNext
    refine wpAny_bind (wpAny_attempt (wpAny_callSpecial?_slot (name := Str.ofString "__next__") hT F.slot_enumerate_next
      (wpAny_call_entry F.slot_enumerate_next hT F.entry_enumerate_next ?_ (F.args_enumerate_next_1 _))))
    show wpAny _ _ (field (.ref e) 2 >>= _) _ _ _
    refine wpAny_bind (wpAny_field he rfl (x := .ref it) rfl ?_)
    refine wpAny_bind (wpAny_nextOf_tuple_end (I.ok.hd hc) hit p' (by simp; omega) fun h' x he' hx' => ?_)
    obtain ⟨o, ho, hcl⟩ := hx'
    refine wpAny_bind (wpAny_isInstance (T := "StopIteration") (b := true) ⟨o, ho, hcl⟩ isSubtype_stop ?_)
    exact wpAny_pure ⟨rfl, I.turned (t' := s.toks) (fun b o hb q => he' b o hb q) f0 f1 f3 f4 f5⟩
  self := fun A i s Q E st h => let ⟨⟨_, he⟩, _⟩ := st; wpAny_pyIter_enum he h
def iEnumT (K : PySem.W.Frag) (ta : TA) : TI := fun σ H R => ta σ H fun vs H1 => ∃ a, vs = [.ref a] ∧ ((∃ xs, SqL K H1 a xs ∧ R (Ite K a) H1) ∨ ∃ xs, SqT K H1 a xs ∧ R (IteT K a) H1)
theorem pi_enumT {X : Cx} {e : Expr} {ta : TA} {p pos tpos : Pos} {elts : List Expr} {kk : Nat} (hg : Gl X "enumerate") (hm : X.mg "enumerate" = none) (ha : PA X [e] ta) (hs : starEach [e] X.env = [(false, eval e X.env)]) :
    PI X (.Tuple elts kk tpos) (.Call (.Name "enumerate" p) [e] [] pos) (iEnumT X.K ta) := by
  refine ⟨fun pins s σ H R I h => ?_⟩
  refine Call_ (ld_blt I hg hm boot_enumerate (PyProof.Rows.callWith_type1 (thn (ha.run pos pins s σ H _ I h) fun us s1 ⟨vs, H1, I1, r1, q1⟩ => ?_) hs rfl))
  obtain ⟨a, ex, q⟩ := q1
  subst ex
  cases r1 with
  | cons r rr =>
    cases rr
    cases r
    have fp : ∀ b ∈ [s1.heap.objs.size + 1, s1.heap.objs.size], FpOk X pins H1 b := fun b hb => by
      have e' : b = s1.heap.objs.size + 1 ∨ b = s1.heap.objs.size := by simpa using hb
      have hle : s1.heap.objs.size ≤ b := by
        rcases e' with z | z
        · rw [z]; exact Nat.le_add_right _ _
        · rw [z]; exact Nat.le_refl _
      exact I1.fpOk hle (I1.hok.fresh hle)
    rcases q with ⟨xs, hq, q⟩ | ⟨xs, hq, q⟩
    · obtain ⟨its, rv, p', hz⟩ := I1.list hq
      refine call_enumerate_list p'.isList fun h' he hit hsz hk => wpAny_pyIter_enum he ?_
      have I2 : Inv X pins σ H1 { s1 with heap := h' } := I1.kept (t' := s1.toks) hk
      exact ⟨s1.heap.objs.size + 1, [s1.heap.objs.size + 1, s1.heap.objs.size], _, _, H1, rfl, I2, turn_enum a (s1.heap.objs.size + 1) s1.heap.objs.size, ⟨⟨.none, he⟩, hit, Nat.succ_ne_self _⟩, fp, q⟩
    · obtain ⟨its, rv, p', hz⟩ := I1.tuple hq
      have p2 : s1.heap.IsTuple a its.toArray := p'
      have ha : a < s1.heap.objs.size := by obtain ⟨_, q, _⟩ := p2; exact Heap.lt_size q
      refine call_enumT p2 fun h' he hit hsz hk => wpAny_pyIter_enum he ?_
      have I2 : Inv X pins σ H1 { s1 with heap := h' } := I1.kept (t' := s1.toks) hk
      exact ⟨s1.heap.objs.size + 1, [s1.heap.objs.size + 1, s1.heap.objs.size], _, _, H1, rfl, I2, turn_enumT a (s1.heap.objs.size + 1) s1.heap.objs.size (Nat.ne_of_lt ha) (Nat.ne_of_gt (Nat.lt_succ_of_lt ha)), ⟨⟨.none, he⟩, hit, Nat.succ_ne_self _⟩, fp, q⟩
/-! sum of a tuple -/
def rSumT (K : PySem.W.Frag) : List V → Hp → VK → Prop := fun vs H Q => ∃ (a : Addr) (ns : List Int), vs = [V.ref a] ∧ SqT K H a (ns.map V.int) ∧ Q (.int ns.sum) H
theorem cr_sumT {X : Cx} (hc : X.calm = true) : CallR X (.builtin "sum") (rSumT X.K) := by
  intro pins s σ H vs us Q I r h
  obtain ⟨a, ns, rfl, hs, q⟩ := h
  obtain ⟨its, rv, hl, _⟩ := I.tuple hs
  rw [Vals.ref1 r]
  have hi := rv.ints
  obtain ⟨xs, hx⟩ := hi.allInts.items
  have hl : s.heap.IsTuple a its.toArray := hl
  have hn : numsOf its.toArray.toList = ns := by rw [show its.toArray.toList = its from rfl, hi.numsOf]
  rw [hx] at hl hn
  rw [nums_intItems] at hn
  refine PySem.W.ktm_sumG (I.ok.hd hc) hl fun h' tk t' hk => ?_
  rw [preSum_eq, List.take_of_length_le (by simp), hn]
  exact ⟨.int _, H, I.kept hk, ⟨_, rfl⟩, q⟩
end DL
set_option Elab.async false
set_option linter.all false
set_option maxRecDepth 100000
/-! DCmp: values as plain data; ==, is, in, repr, isinstance, truth. -/
namespace DL
open PySem L2

mutual
def pyI (f : Nat → Option PyData) : D → Option PyData
  | .non => some .none
  | .bl b => some (.bool b)
  | .int i => some (.int i)
  | .str x => some (.str x)
  | .tup ds => (pysI f ds).map .tuple
  | .rls ds => (pysI f ds).map .list
  | .ref k => f k
  | .ty _ => none
  | .gl _ => none
def pysI (f : Nat → Option PyData) : List D → Option (List PyData)
  | [] => some []
  | d :: ds => match pyI f d, pysI f ds with
    | some p, some ps => some (p :: ps)
    | _, _ => none
end
/-- the lists of the store, n deep -/
def lstOf (S : SS) : Nat → Nat → Option PyData
  | 0, _ => none
  | n + 1, k => match S[k]? with
    | some (.lst ds) => (pysI (lstOf S n) ds).map .list
    | _ => none
/-- a value as plain data -/
def py (S : SS) (d : D) : Option PyData := pyI (lstOf S 4) d
section
variable {K : PySem.W.Frag} {ι : List Addr} {H : Hp} {S : SS}
mutual
theorem pyI_ok {f : Nat → Option PyData} (hf : ∀ (k : Nat) (a : Addr) (p : PyData), ι[k]? = some a → f k = some p → Dp K H (.ref a) p) : ∀ {d : D} {v : V} {p : PyData}, RD K H ι d v → pyI f d = some p → Dp K H v p
  | .non, _, _, r, e => by simp [pyI] at e; subst e; rw [r.non]; exact .non
  | .bl b, _, _, r, e => by simp [pyI] at e; subst e; rw [r.bl]; exact .bl b
  | .int i, _, _, r, e => by simp [pyI] at e; subst e; rw [r.int]; exact .int i
  | .str i, _, _, r, e => by simp [pyI] at e; subst e; rw [r.str]; exact .str i
  | .tup ds, _, _, r, e => by
    simp only [pyI, Option.map_eq_some_iff] at e
    obtain ⟨ps, e1, rfl⟩ := e
    obtain ⟨a, vs, rfl, t, l⟩ := r.tup
    exact .tup t (pysI_ok hf l e1)
  | .rls ds, _, _, r, e => by
    simp only [pyI, Option.map_eq_some_iff] at e
    obtain ⟨ps, e1, rfl⟩ := e
    obtain ⟨a, vs, rfl, t, l⟩ := r.rls
    exact .lst t.sq (pysI_ok hf l e1)
  | .ref k, _, _, r, e => by
    simp only [pyI] at e
    obtain ⟨a, rfl, q⟩ := r.ref
    exact hf k a _ q e
  | .ty _, _, _, _, e => by simp [pyI] at e
  | .gl _, _, _, _, e => by simp [pyI] at e
theorem pysI_ok {f : Nat → Option PyData} (hf : ∀ (k : Nat) (a : Addr) (p : PyData), ι[k]? = some a → f k = some p → Dp K H (.ref a) p) : ∀ {ds : List D} {vs : List V} {ps : List PyData}, RDs K H ι ds vs → pysI f ds = some ps → DpAll K H vs ps
  | [], _, _, r, e => by
    simp [pysI] at e
    subst e
    unfold RDs at r
    subst r
    exact .nil
  | d :: ds, _, _, r, e => by
    unfold RDs at r
    obtain ⟨v, vs, rfl, h1, h2⟩ := r
    simp only [pysI] at e
    split at e
    · rename_i p ps e1 e2
      cases e
      exact .cons (pyI_ok hf h1 e1) (pysI_ok hf h2 e2)
    · cases e
end
theorem lstOf_ok (s : RelS K H ι S) : ∀ (n : Nat) (k : Nat) (a : Addr) (p : PyData), ι[k]? = some a → lstOf S n k = some p → Dp K H (.ref a) p
  | 0, _, _, _, _, e => by simp [lstOf] at e
  | n + 1, k, a, p, q, e => by
    simp only [lstOf] at e
    split at e
    · rename_i ds ek
      simp only [Option.map_eq_some_iff] at e
      obtain ⟨ps, e1, rfl⟩ := e
      obtain ⟨vs, h1, h2⟩ := s.at k _ a ek q
      exact .lst (SqL.of h1) (pysI_ok (lstOf_ok s n) h2 e1)
    · cases e
theorem py_ok (s : RelS K H ι S) {d : D} {v : V} {p : PyData} (r : RD K H ι d v) (e : py S d = some p) : Dp K H v p := pyI_ok (lstOf_ok s 4) r e
end

/-! ### == -/
def eqD : G2 := fun d e S => match d, e with
  | .str x, .str y => some (.bl (decide (x = y)), S)
  | d, e => match py S d, py S e with
    | some p, some q => if SeqAt.shaped p = true ∧ SeqAt.shaped q = true then some (.bl (PyData.eqv p q), S) else none
    | _, _ => none
def neD : G2 := fun d e S => match d, e with
  | .str x, .str y => some (.bl (!decide (x = y)), S)
  | d, e => match py S d, py S e with
    | some p, some q => if SeqAt.shaped p = true ∧ SeqAt.shaped q = true then some (.bl (!PyData.eqv p q), S) else none
    | _, _ => none
theorem dec_str {x y : Str} : decide (V.str x = V.str y) = decide (x = y) := by
  by_cases h : x = y
  · simp [h]
  · simp [h]
def intCmp (f : Int → Int → Bool) : G2
  | .int i, .int j, S => some (.bl (f i j), S)
  | _, _, _ => none
def ltD : G2
  | .int i, .int j, S => some (.bl (decide (i < j)), S)
  | .str i, .str j, S => some (.bl (decide (i.cps.toList < j.cps.toList)), S)
  | _, _, _ => none
def noneD : D → Bool
  | .non => true
  | _ => false
/-- is: with None, with a bool -/
def isD : G2
  | d, .non, S => some (.bl (noneD d), S)
  | .bl a, .bl b, S => some (.bl (decide (a = b)), S)
  | _, _, _ => none
def isNotD : G2
  | d, .non, S => some (.bl (!noneD d), S)
  | .bl a, .bl b, S => some (.bl (!decide (a = b)), S)
  | _, _, _ => none
def flatD : D → Bool
  | .non => true
  | .bl _ => true
  | .int _ => true
  | .str _ => true
  | _ => false
def eqF : D → D → Bool
  | .non, .non => true
  | .bl a, .bl b => a == b
  | .bl a, .int b => (if a then 1 else 0) == b
  | .int a, .bl b => a == (if b then 1 else 0)
  | .int a, .int b => a == b
  | .str a, .str b => a == b
  | _, _ => false
def keyD : D → Option Key
  | .int i => some (.inl i)
  | .str x => some (.inr x)
  | _ => none
/-- in a list, of any depth -/
def deepD (neg : Bool) : G2 := fun d e S => match py S d, py S e with
  | some p, some (.list qs) => if SeqAt.shaped p = true ∧ SeqAt.shaped (.list qs) = true ∧ p.depth ≤ 60 then some (.bl (if neg then !(qs.any fun z => PyData.eqv z p) else qs.any fun z => PyData.eqv z p), S) else none
  | some p, some (.tuple qs) => if SeqAt.shaped p = true ∧ SeqAt.shaped (.tuple qs) = true ∧ p.depth ≤ 60 then some (.bl (if neg then !(qs.any fun z => PyData.eqv z p) else qs.any fun z => PyData.eqv z p), S) else none
  | _, _ => none
def inD (neg : Bool) : G2 := fun d e S => match e with
  | .str y => match d with
    | .str x => some (.bl (if neg then !(!(Builtin.Str.occurrences y x 0 y.length 1).isEmpty) else !(Builtin.Str.occurrences y x 0 y.length 1).isEmpty), S)
    | _ => none
  | e => match seqD e S with
    | some ds => if flatD d = true ∧ ds.all flatD = true then some (.bl (if neg then !(ds.any fun y => eqF y d) else ds.any fun y => eqF y d), S) else deepD neg d e S
    | none => none
section
variable {K : PySem.W.Frag} {ι : List Addr} {H : Hp} {S : SS}
theorem flat_ok {d : D} {v : V} (r : RD K H ι d v) (h : flatD d = true) : flatV v = true := by
  cases d with
  | non => rw [r.non]; rfl
  | bl b => rw [r.bl]; rfl
  | int b => rw [r.int]; rfl
  | str b => rw [r.str]; rfl
  | _ => simp [flatD] at h
theorem eqF_ok {d e : D} {v u : V} (r1 : RD K H ι d v) (r2 : RD K H ι e u) (h1 : flatD d = true) (h2 : flatD e = true) : eqV v u = eqF d e := by
  cases d with
  | non =>
    rw [r1.non]
    cases e with
    | non => rw [r2.non]; rfl
    | bl b => rw [r2.bl]; rfl
    | int b => rw [r2.int]; rfl
    | str b => rw [r2.str]; rfl
    | _ => simp [flatD] at h2
  | bl c =>
    rw [r1.bl]
    cases e with
    | non => rw [r2.non]; rfl
    | bl b => rw [r2.bl]; rfl
    | int b => rw [r2.int]; rfl
    | str b => rw [r2.str]; rfl
    | _ => simp [flatD] at h2
  | int c =>
    rw [r1.int]
    cases e with
    | non => rw [r2.non]; rfl
    | bl b => rw [r2.bl]; rfl
    | int b => rw [r2.int]; rfl
    | str b => rw [r2.str]; rfl
    | _ => simp [flatD] at h2
  | str c =>
    rw [r1.str]
    cases e with
    | non => rw [r2.non]; rfl
    | bl b => rw [r2.bl]; rfl
    | int b => rw [r2.int]; rfl
    | str b => rw [r2.str]; rfl
    | _ => simp [flatD] at h2
  | _ => simp [flatD] at h1
theorem flats_ok : ∀ {ds : List D} {vs : List V}, RDs K H ι ds vs → ds.all flatD = true → vs.all flatV = true
  | [], _, r, _ => by unfold RDs at r; subst r; rfl
  | d :: ds, _, r, h => by
    unfold RDs at r
    obtain ⟨v, vs, rfl, h1, h2⟩ := r
    rw [List.all_cons, Bool.and_eq_true] at h ⊢
    exact ⟨flat_ok h1 h.1, flats_ok h2 h.2⟩
theorem inV_ok {d : D} {v : V} (rd : RD K H ι d v) (hd : flatD d = true) : ∀ {ds : List D} {vs : List V}, RDs K H ι ds vs → ds.all flatD = true → inV v vs = ds.any fun y => eqF y d
  | [], _, r, _ => by unfold RDs at r; subst r; rfl
  | d' :: ds, _, r, h => by
    unfold RDs at r
    obtain ⟨v', vs, rfl, h1, h2⟩ := r
    rw [List.all_cons, Bool.and_eq_true] at h
    have ih := inV_ok rd hd h2 h.2
    unfold inV at ih ⊢
    rw [List.any_cons, List.any_cons, ih, eqF_ok h1 rd h.1 hd]
end
section
variable {X : Cx}
theorem oc_eq (hu : X.A.units + 64 < cLine) : OpR X (compareOp .Eq) (rOf2 X.K eqD) := by
  intro pins s σ H x y v u Q I rx ry h
  obtain ⟨ι, S, d, e, rs, r1, r2, q⟩ := h
  unfold eqD at q
  split at q
  · rw [r1.str] at rx
    rw [r2.str] at ry
    exact op_eq pins s σ H _ _ v u Q I rx ry ⟨rfl, by rw [dec_str]; exact q.val rs RD.mbl⟩
  · split at q
    · rename_i p p' e1 e2
      split at q
      · rename_i hs
        exact op_eqD hu pins s σ H _ _ v u Q I rx ry ⟨p, p', py_ok rs r1 e1, py_ok rs r2 e2, hs.1, hs.2, q.val rs RD.mbl⟩
      · exact q.elim
    · exact q.elim
theorem oc_ne (hu : X.A.units + 64 < cLine) : OpR X (compareOp .NotEq) (rOf2 X.K neD) := by
  intro pins s σ H x y v u Q I rx ry h
  obtain ⟨ι, S, d, e, rs, r1, r2, q⟩ := h
  unfold neD at q
  split at q
  · rw [r1.str] at rx
    rw [r2.str] at ry
    exact op_ne pins s σ H _ _ v u Q I rx ry ⟨rfl, by rw [dec_str]; exact q.val rs RD.mbl⟩
  · split at q
    · rename_i p p' e1 e2
      split at q
      · rename_i hs
        exact op_neD hu pins s σ H _ _ v u Q I rx ry ⟨p, p', py_ok rs r1 e1, py_ok rs r2 e2, hs.1, hs.2, q.val rs RD.mbl⟩
      · exact q.elim
    · exact q.elim
theorem oc_int {op : CmpOp} {f : Int → Int → Bool} (ho : OpR X (compareOp op) (rI0 fun i j => .bl (f i j))) : OpR X (compareOp op) (rOf2 X.K (intCmp f)) := by
  intro pins s σ H x y v u Q I rx ry h
  obtain ⟨ι, S, d, e, rs, r1, r2, q⟩ := h
  unfold intCmp at q
  split at q
  · rw [r1.int] at rx
    rw [r2.int] at ry
    exact ho pins s σ H _ _ v u Q I rx ry ⟨_, _, rfl, rfl, q.val rs RD.mbl⟩
  · exact q.elim
theorem oc_lt : OpR X (compareOp .Lt) (rOf2 X.K ltD) := by
  intro pins s σ H x y v u Q I rx ry h
  obtain ⟨ι, S, d, e, rs, r1, r2, q⟩ := h
  unfold ltD at q
  split at q
  · rw [r1.int] at rx
    rw [r2.int] at ry
    exact op_lt pins s σ H _ _ v u Q I rx ry ⟨_, _, rfl, rfl, q.val rs RD.mbl⟩
  · rw [r1.str] at rx
    rw [r2.str] at ry
    exact op_lt_str pins s σ H _ _ v u Q I rx ry ⟨_, _, rfl, rfl, q.val rs RD.mbl⟩
  · exact q.elim
theorem nonV {K : PySem.W.Frag} {ι : List Addr} {H : Hp} {d : D} {x : V} (r : RD K H ι d x) : decide (x = V.non) = noneD d := by
  cases d with
  | non => rw [r.non]; rfl
  | bl b => rw [r.bl]; rfl
  | int b => rw [r.int]; rfl
  | str b => rw [r.str]; rfl
  | ty b => rw [r.ty]; rfl
  | gl b => rw [r.gl]; rfl
  | tup ds => obtain ⟨a, vs, rfl, _, _⟩ := r.tup; rfl
  | rls ds => obtain ⟨a, vs, rfl, _, _⟩ := r.rls; rfl
  | ref k => obtain ⟨a, rfl, _⟩ := r.ref; rfl
theorem oc_is : OpR X (compareOp .Is) (rOf2 X.K isD) := by
  intro pins s σ H x y v u Q I rx ry h
  obtain ⟨ι, S, d, e, rs, r1, r2, q⟩ := h
  unfold isD at q
  split at q
  · rw [r2.non] at ry
    exact op_isN pins s σ H _ _ v u Q I rx ry ⟨rfl, by rw [nonV r1]; exact q.val rs RD.mbl⟩
  · rw [r1.bl] at rx
    rw [r2.bl] at ry
    exact op_isBl pins s σ H _ _ v u Q I rx ry ⟨_, _, rfl, rfl, q.val rs RD.mbl⟩
  · exact q.elim
theorem oc_isNot : OpR X (compareOp .IsNot) (rOf2 X.K isNotD) := by
  intro pins s σ H x y v u Q I rx ry h
  obtain ⟨ι, S, d, e, rs, r1, r2, q⟩ := h
  unfold isNotD at q
  split at q
  · rw [r2.non] at ry
    refine op_notN pins s σ H _ _ v u Q I rx ry ⟨rfl, ?_⟩
    rw [nonV r1]
    exact q.val rs RD.mbl
  · rw [r1.bl] at rx
    rw [r2.bl] at ry
    exact op_notBl pins s σ H _ _ v u Q I rx ry ⟨_, _, rfl, rfl, q.val rs RD.mbl⟩
  · exact q.elim
theorem oc_in (hu : X.A.units + 64 < cLine) : OpR X (compareOp .In) (rOf2 X.K (inD false)) := by
  intro pins s σ H x y v u Q I rx ry h
  obtain ⟨ι, S, d, e, rs, r1, r2, q⟩ := h
  unfold inD at q
  split at q
  · split at q
    · rw [r1.str] at rx
      rw [r2.str] at ry
      exact op_in_str pins s σ H _ _ v u Q I rx ry ⟨_, _, rfl, rfl, q.val rs RD.mbl⟩
    · exact q.elim
  · split at q
    · rename_i ds hs
      split at q
      · rename_i hf
        obtain ⟨a, vs, rfl, h1, h2⟩ := seqD_ok rs r2 hs
        refine op_in_seq pins s σ H _ _ v u Q I rx ry ⟨a, vs, rfl, h1, flat_ok r1 hf.1, flats_ok h2 hf.2, ?_⟩
        rw [inV_ok r1 hf.1 h2 hf.2]
        exact q.val rs RD.mbl
      · unfold deepD at q
        split at q
        · rename_i p qs e1 e2
          split at q
          · rename_i hs
            obtain ⟨as, k1⟩ := Dp.reads I p x v (py_ok rs r1 e1) rx
            obtain ⟨bs, k2⟩ := Dp.reads I (.list qs) y u (py_ok rs r2 e2) ry
            exact SeqAt.in_list_reads k2 k1 (SeqAt.canLay_of_shaped hs.2.1) (SeqAt.canLay_of_shaped hs.1) (by have := Nat.min_le_right (PyData.depthAll qs) p.depth; omega) ⟨.bl _, H, I, rfl, q.val rs RD.mbl⟩
          · exact q.elim
        · rename_i p qs e1 e2
          split at q
          · rename_i hs
            obtain ⟨as, k1⟩ := Dp.reads I p x v (py_ok rs r1 e1) rx
            obtain ⟨bs, k2⟩ := Dp.reads I (.tuple qs) y u (py_ok rs r2 e2) ry
            exact SeqAt.in_tuple_reads k2 k1 (SeqAt.canLay_of_shaped hs.2.1) (SeqAt.canLay_of_shaped hs.1) (by have := Nat.min_le_right (PyData.depthAll qs) p.depth; omega) ⟨.bl _, H, I, rfl, q.val rs RD.mbl⟩
          · exact q.elim
        · exact q.elim
    · exact q.elim
theorem oc_notIn (hu : X.A.units + 64 < cLine) : OpR X (compareOp .NotIn) (rOf2 X.K (inD true)) := by
  intro pins s σ H x y v u Q I rx ry h
  obtain ⟨ι, S, d, e, rs, r1, r2, q⟩ := h
  unfold inD at q
  split at q
  · split at q
    · rw [r1.str] at rx
      rw [r2.str] at ry
      exact op_notIn_str pins s σ H _ _ v u Q I rx ry ⟨_, _, rfl, rfl, q.val rs RD.mbl⟩
    · exact q.elim
  · split at q
    · rename_i ds hs
      split at q
      · rename_i hf
        obtain ⟨a, vs, rfl, h1, h2⟩ := seqD_ok rs r2 hs
        refine op_notIn_seq pins s σ H _ _ v u Q I rx ry ⟨a, vs, rfl, h1, flat_ok r1 hf.1, flats_ok h2 hf.2, ?_⟩
        rw [inV_ok r1 hf.1 h2 hf.2]
        exact q.val rs RD.mbl
      · unfold deepD at q
        split at q
        · rename_i p qs e1 e2
          split at q
          · rename_i hs
            obtain ⟨as, k1⟩ := Dp.reads I p x v (py_ok rs r1 e1) rx
            obtain ⟨bs, k2⟩ := Dp.reads I (.list qs) y u (py_ok rs r2 e2) ry
            exact SeqAt.notIn_list_reads k2 k1 (SeqAt.canLay_of_shaped hs.2.1) (SeqAt.canLay_of_shaped hs.1) (by have := Nat.min_le_right (PyData.depthAll qs) p.depth; omega) ⟨.bl _, H, I, rfl, q.val rs RD.mbl⟩
          · exact q.elim
        · rename_i p qs e1 e2
          split at q
          · rename_i hs
            obtain ⟨as, k1⟩ := Dp.reads I p x v (py_ok rs r1 e1) rx
            obtain ⟨bs, k2⟩ := Dp.reads I (.tuple qs) y u (py_ok rs r2 e2) ry
            exact SeqAt.notIn_tuple_reads k2 k1 (SeqAt.canLay_of_shaped hs.2.1) (SeqAt.canLay_of_shaped hs.1) (by have := Nat.min_le_right (PyData.depthAll qs) p.depth; omega) ⟨.bl _, H, I, rfl, q.val rs RD.mbl⟩
          · exact q.elim
        · exact q.elim
    · exact q.elim
end
def cmpD : CmpOp → G2
  | .Eq => eqD
  | .NotEq => neD
  | .Lt => ltD
  | .LtE => intCmp fun i j => decide (i ≤ j)
  | .Gt => intCmp fun i j => decide (j < i)
  | .GtE => intCmp fun i j => decide (j ≤ i)
  | .Is => isD
  | .IsNot => isNotD
  | .In => inD false
  | .NotIn => inD true
theorem oc_cmp {X : Cx} (hu : X.A.units + 64 < cLine) : ∀ op : CmpOp, OpR X (compareOp op) (rOf2 X.K (cmpD op))
  | .Eq => oc_eq hu
  | .NotEq => oc_ne hu
  | .Lt => oc_lt
  | .LtE => oc_int op_le
  | .Gt => oc_int op_gt
  | .GtE => oc_int op_ge
  | .Is => oc_is
  | .IsNot => oc_isNot
  | .In => oc_in hu
  | .NotIn => oc_notIn hu

/-! ### truth -/
def truD : D → SS → Option Bool
  | .non, _ => some false
  | .bl b, _ => some b
  | .int i, _ => some (i != 0)
  | .str y, _ => if y.length ≤ sizeLine then some ((y.length : Int) != 0) else none
  | .tup ds, _ => some (!ds.isEmpty)
  | .rls ds, _ => some (!ds.isEmpty)
  | .ref k, S => match S[k]? with
    | some (.lst ds) => some (!ds.isEmpty)
    | some (.dct ds) => some (!ds.isEmpty)
    | none => none
  | _, _ => none
theorem rds_empty {K : PySem.W.Frag} {ι : List Addr} {H : Hp} {ds : List D} {vs : List V} (r : RDs K H ι ds vs) : ds.isEmpty = vs.isEmpty := by
  cases ds with
  | nil => unfold RDs at r; subst r; rfl
  | cons d ds => unfold RDs at r; obtain ⟨v, vs', rfl, _⟩ := r; rfl
theorem truD_ok {K : PySem.W.Frag} {ι : List Addr} {H : Hp} {S : SS} {d : D} {v : V} {b : Bool} (s : RelS K H ι S) (r : RD K H ι d v) (h : truD d S = some b) : TruV K v H b := by
  cases d with
  | non => rw [r.non]; simp [truD] at h; subst h; rfl
  | bl c => rw [r.bl]; simp [truD] at h; subst h; rfl
  | int c => rw [r.int]; simp [truD] at h; subst h; rfl
  | str c =>
    rw [r.str]
    simp only [truD] at h
    split at h
    · cases h; exact ⟨by assumption, rfl⟩
    · cases h
  | tup ds =>
    obtain ⟨a, vs, rfl, h1, h2⟩ := r.tup
    have h : some (!ds.isEmpty) = some b := h
    cases h
    exact .inr (.inl ⟨vs, h1, by rw [rds_empty h2]⟩)
  | rls ds =>
    obtain ⟨a, vs, rfl, h1, h2⟩ := r.rls
    have h : some (!ds.isEmpty) = some b := h
    cases h
    exact .inl ⟨vs, h1.sq, by rw [rds_empty h2]⟩
  | ref k =>
    simp only [truD] at h
    split at h
    · rename_i ds e
      cases h
      obtain ⟨a, vs, rfl, _, h1, h2⟩ := s.lst e r
      exact .inl ⟨vs, SqL.of h1, by rw [rds_empty h2]⟩
    · rename_i ds e
      cases h
      obtain ⟨a, rfl, q⟩ := r.ref
      obtain ⟨vs, h1, h2⟩ := s.at k _ a e q
      refine .inr (.inr ⟨vs, h1, ?_⟩)
      cases ds with
      | nil => cases h2; rfl
      | cons d ds => obtain ⟨v, vs', rfl, _⟩ := h2; rfl
    · cases h
  | ty n => simp [truD] at h
  | gl n => simp [truD] at h
end DL
set_option Elab.async false
set_option linter.all false
set_option maxRecDepth 100000
/-! DCall: built-in functions and types called upon values as trees. -/
namespace DL
open PySem L2

/-- a built-in by its name: what it is, what it does -/
structure Bi where
  name : Str
  v : Value
  g : GL

/-! ### isinstance -/
def tyD : D → SS → Option String
  | .non, _ => some "NoneType"
  | .bl _, _ => some "bool"
  | .int _, _ => some "int"
  | .str _, _ => some "str"
  | .tup _, _ => some "tuple"
  | .rls _, _ => some "list"
  | .ref k, S => match S[k]? with
    | some (.lst _) => some "list"
    | some (.dct _) => some "dict"
    | none => none
  | _, _ => none
section
variable {K : PySem.W.Frag} {ι : List Addr} {H : Hp} {S : SS}
theorem tyX_sqt {a : Addr} {vs : List V} (h : SqT K H a vs) : TyX K H (.ref a) (.type "tuple") := by
  rcases h with (h | ⟨o, h⟩) | ⟨o, its, n, hk, hc, _⟩
  · exact .base (.tup h)
  · exact .fTuple h
  · exact .kTuple hk hc
theorem tyX_frz {a : Addr} {vs : List V} (h : FrzL K H a vs) : TyX K H (.ref a) (.type "list") := by
  rcases h with ⟨o, h⟩ | ⟨o, its, n, hk, hc, _⟩
  · exact .base (.frz h)
  · exact .kList hk hc
theorem tyD_ok {d : D} {v : V} {T : String} (s : RelS K H ι S) (r : RD K H ι d v) (h : tyD d S = some T) : TyX K H v (.type T) := by
  cases d with
  | non => rw [r.non]; cases h; exact .base .non
  | bl b => rw [r.bl]; cases h; exact .base (.bl b)
  | int b => rw [r.int]; cases h; exact .base (.int b)
  | str b => rw [r.str]; cases h; exact .base (.str b)
  | tup ds => obtain ⟨a, vs, rfl, h1, _⟩ := r.tup; cases h; exact tyX_sqt h1
  | rls ds => obtain ⟨a, vs, rfl, h1, _⟩ := r.rls; cases h; exact tyX_frz h1
  | ref k =>
    simp only [tyD] at h
    split at h
    · rename_i ds e
      cases h
      obtain ⟨a, vs, rfl, _, h1, _⟩ := s.lst e r
      exact .base (.lst h1)
    · rename_i ds e
      cases h
      obtain ⟨a, rfl, q⟩ := r.ref
      obtain ⟨vs, h1, _⟩ := s.at k _ a e q
      exact .base (.dK h1)
    · cases h
  | ty n => cases h
  | gl n => cases h
end
def isiD : GL
  | [d, .ty T], S => match tyD d S with
    | some U => match kitB U T with
      | some b => some (.bl b, S)
      | none => none
    | none => none
  | _, _ => none
section
variable {X : Cx}
theorem cd_isi : CallR X (.builtin "isinstance") (rOfL X.K isiD) := by
  intro pins s σ H xs us Q I r h
  obtain ⟨ι, S, ds, rs, rd, q⟩ := h
  unfold isiD at q
  split at q
  · rename_i _ d T
    split at q
    · rename_i U hU
      split at q
      · rename_i b hb
        unfold RDs at rd
        obtain ⟨v, r', rfl, r1, r2⟩ := rd
        unfold RDs at r2
        obtain ⟨v', r'', rfl, r3, r4⟩ := r2
        unfold RDs at r4
        subst r4
        have e3 := r3.ty
        subst e3
        exact call_isi pins s σ H _ us Q I r ⟨v, .ty T, .type U, .type T, b, rfl, .ty T, tyD_ok rs r1 hU, kit_ty hb, q.val rs RD.mbl⟩
      · exact q.elim
    · exact q.elim
  · exact q.elim
end
theorem kb_int_int : kitB "int" "int" = some true := by decide +kernel
theorem kb_bool_int : kitB "bool" "int" = some true := by decide +kernel
theorem kb_str_int : kitB "str" "int" = some false := by decide +kernel
theorem kb_tup_int : kitB "tuple" "int" = some false := by decide +kernel
theorem kb_lst_int : kitB "list" "int" = some false := by decide +kernel
theorem kb_dct_int : kitB "dict" "int" = some false := by decide +kernel
theorem kb_non_int : kitB "NoneType" "int" = some false := by decide +kernel
theorem kb_int_bool : kitB "int" "bool" = some false := by decide +kernel
theorem kb_bool_bool : kitB "bool" "bool" = some true := by decide +kernel
theorem kb_str_bool : kitB "str" "bool" = some false := by decide +kernel
theorem kb_tup_bool : kitB "tuple" "bool" = some false := by decide +kernel
theorem kb_lst_bool : kitB "list" "bool" = some false := by decide +kernel
theorem kb_dct_bool : kitB "dict" "bool" = some false := by decide +kernel
theorem kb_non_bool : kitB "NoneType" "bool" = some false := by decide +kernel
theorem kb_int_str : kitB "int" "str" = some false := by decide +kernel
theorem kb_bool_str : kitB "bool" "str" = some false := by decide +kernel
theorem kb_str_str : kitB "str" "str" = some true := by decide +kernel
theorem kb_tup_str : kitB "tuple" "str" = some false := by decide +kernel
theorem kb_lst_str : kitB "list" "str" = some false := by decide +kernel
theorem kb_dct_str : kitB "dict" "str" = some false := by decide +kernel
theorem kb_non_str : kitB "NoneType" "str" = some false := by decide +kernel
theorem kb_int_tup : kitB "int" "tuple" = some false := by decide +kernel
theorem kb_bool_tup : kitB "bool" "tuple" = some false := by decide +kernel
theorem kb_str_tup : kitB "str" "tuple" = some false := by decide +kernel
theorem kb_tup_tup : kitB "tuple" "tuple" = some true := by decide +kernel
theorem kb_lst_tup : kitB "list" "tuple" = some false := by decide +kernel
theorem kb_dct_tup : kitB "dict" "tuple" = some false := by decide +kernel
theorem kb_non_tup : kitB "NoneType" "tuple" = some false := by decide +kernel

/-! ### one argument -/
def one (g : G1) : GL
  | [d], S => g d S
  | _, _ => none
theorem rds1 {K : PySem.W.Frag} {ι : List Addr} {H : Hp} {d : D} {vs : List V} (r : RDs K H ι [d] vs) : ∃ v, vs = [v] ∧ RD K H ι d v := by
  unfold RDs at r
  obtain ⟨v, r', rfl, r1, r2⟩ := r
  unfold RDs at r2
  subst r2
  exact ⟨v, rfl, r1⟩
theorem rds2 {K : PySem.W.Frag} {ι : List Addr} {H : Hp} {d e : D} {vs : List V} (r : RDs K H ι [d, e] vs) : ∃ v u, vs = [v, u] ∧ RD K H ι d v ∧ RD K H ι e u := by
  unfold RDs at r
  obtain ⟨v, r', rfl, r1, r2⟩ := r
  obtain ⟨u, rfl, r3⟩ := rds1 r2
  exact ⟨v, u, rfl, r1, r3⟩
def CallR1 (X : Cx) (f : Value) (r : V → Hp → VK → Prop) : Prop :=
  ∀ (pins : List (Addr × Obj)) (s : Shared) (σ : St) (H : Hp) (x : V) (u : Value) (Q : VK), L2.Inv X pins σ H s → RelV x u → r x H Q → wpAny (model X.prog X.w) X.A (call f [u]) (EP X pins σ Q) X.xe s
theorem CallR1.lift {X : Cx} {f : Value} {g : G1} (h : CallR1 X f (rOf1 X.K g)) : CallR X f (rOfL X.K (one g)) := by
  intro pins s σ H xs us Q I r q
  obtain ⟨ι, S, ds, rs, rd, q⟩ := q
  unfold one at q
  split at q
  · obtain ⟨v, rfl, r1⟩ := rds1 rd
    obtain ⟨u, rfl, r2⟩ := vals1 r
    exact h pins s σ H v u Q I r2 ⟨ι, S, _, rs, r1, q⟩
  · exact q.elim

def absD : G1
  | .int i, S => some (.int (if i < 0 then -i else i), S)
  | _, _ => none
def intD : G1
  | .int i, S => some (.int i, S)
  | .bl k, S => some (.int (if k then 1 else 0), S)
  | _, _ => none
def strD : G1
  | .int i, S => if i.natAbs.log2 < 1920 then some (.str (toString i : String), S) else none
  | _, _ => none
def lenD : G1 := fun d S => match d with
  | .str z => if z.length ≤ sizeLine then some (.int z.length, S) else none
  | d => match seqD d S with
    | some ds => some (.int ds.length, S)
    | none => none
def tupleD : G1 := fun d S => match seqD d S with
    | some ds => some (.tup ds, S)
    | none => none
def listD : G1 := fun d S => match seqD d S with
    | some ds => some (.ref S.length, S ++ [.lst ds])
    | none => none
/-- all items bools -/
def blsD : List D → Option (List Bool)
  | [] => some []
  | .bl b :: r => (blsD r).map (b :: ·)
  | _ => none
def intsD : List D → Option (List Int)
  | [] => some []
  | .int b :: r => (intsD r).map (b :: ·)
  | _ => none
/-- the items of a list of the store -/
def itemsD (d : D) (S : SS) : Option (List D) := match d with
  | .ref k => match S[k]? with
    | some (.lst ds) => some ds
    | _ => none
  | .rls ds => some ds
  | _ => none
def allD : G1 := fun d S => match itemsD d S with
  | some ds => match blsD ds with
    | some bs => some (.bl (bs.all id), S)
    | none => none
  | none => none
def anyD : G1 := fun d S => match itemsD d S with
  | some ds => match blsD ds with
    | some bs => some (.bl (bs.any id), S)
    | none => none
  | none => none
def sumD : G1 := fun d S => match d with
  | .tup ds => match intsD ds with
    | some ns => some (.int ns.sum, S)
    | none => none
  | d => match itemsD d S with
  | some ds => match intsD ds with
    | some ns => some (.int ns.sum, S)
    | none => none
  | none => none
/-- repr -/
def reprOk (p : PyData) : Prop := p.showable = true ∧ p.canLay0 = true ∧ p.depth ≤ 60 ∧ p.shown.length ≤ sizeLine
instance (p : PyData) : Decidable (reprOk p) := by unfold reprOk; infer_instance
def reprD : G1 := fun d S => match py S d with
  | some p => if reprOk p then some (.str p.shown, S) else none
  | none => none
section
variable {K : PySem.W.Frag} {ι : List Addr} {H : Hp} {S : SS}
theorem itemsD_ok {d : D} {v : V} {ds : List D} (s : RelS K H ι S) (r : RD K H ι d v) (h : itemsD d S = some ds) : ∃ a vs, v = .ref a ∧ SqL K H a vs ∧ RDs K H ι ds vs := by
  cases d with
  | ref k =>
    have h : (match S[k]? with | some (.lst ds) => some ds | _ => none) = some ds := h
    split at h
    · rename_i es e
      cases h
      obtain ⟨a, vs, h1, h2, h3, h4⟩ := s.lst e r
      exact ⟨a, vs, h1, SqL.of h3, h4⟩
    · cases h
  | rls es =>
    have : es = ds := by simpa [itemsD] using h
    subst this
    obtain ⟨a, vs, h1, h2, h3⟩ := r.rls
    exact ⟨a, vs, h1, h2.sq, h3⟩
  | _ => simp [itemsD] at h
theorem blsD_ok : ∀ {ds : List D} {vs : List V} {bs : List Bool}, RDs K H ι ds vs → blsD ds = some bs → vs = bs.map V.bl := by
  intro ds
  induction ds with
  | nil => intro vs bs r h; cases h; unfold RDs at r; exact r
  | cons d ds ih =>
    intro vs bs r h
    cases d with
    | bl b =>
      have h2 : (blsD ds).map (b :: ·) = some bs := h
      rw [Option.map_eq_some_iff] at h2
      obtain ⟨cs, h3, rfl⟩ := h2
      unfold RDs at r
      obtain ⟨v, r', rfl, r1, r2⟩ := r
      rw [r1.bl, ih r2 h3]
      rfl
    | _ => cases h
theorem intsD_ok : ∀ {ds : List D} {vs : List V} {bs : List Int}, RDs K H ι ds vs → intsD ds = some bs → vs = bs.map V.int := by
  intro ds
  induction ds with
  | nil => intro vs bs r h; cases h; unfold RDs at r; exact r
  | cons d ds ih =>
    intro vs bs r h
    cases d with
    | int b =>
      have h2 : (intsD ds).map (b :: ·) = some bs := h
      rw [Option.map_eq_some_iff] at h2
      obtain ⟨cs, h3, rfl⟩ := h2
      unfold RDs at r
      obtain ⟨v, r', rfl, r1, r2⟩ := r
      rw [r1.int, ih r2 h3]
      rfl
    | _ => cases h
end
section
variable {X : Cx}
theorem cd_abs : CallR1 X (.builtin "abs") (rOf1 X.K absD) := by
  intro pins s σ H x u Q I r h
  obtain ⟨ι, S, d, rs, rd, q⟩ := h
  unfold absD at q
  split at q
  · rw [rd.int] at r
    exact call_abs pins s σ H _ _ Q I (.cons r .nil) ⟨_, rfl, q.val rs RD.mint⟩
  · exact q.elim
theorem cd_int : CallR1 X (.type "int") (rOf1 X.K intD) := by
  intro pins s σ H x u Q I r h
  obtain ⟨ι, S, d, rs, rd, q⟩ := h
  unfold intD at q
  split at q
  · rw [rd.int] at r
    exact call_int1 pins s σ H _ _ Q I (.cons r .nil) (.inl ⟨_, rfl, q.val rs RD.mint⟩)
  · rw [rd.bl] at r
    exact call_int1 pins s σ H _ _ Q I (.cons r .nil) (.inr ⟨_, rfl, q.val rs RD.mint⟩)
  · exact q.elim
theorem cd_str : CallR1 X (.type "str") (rOf1 X.K strD) := by
  intro pins s σ H x u Q I r h
  obtain ⟨ι, S, d, rs, rd, q⟩ := h
  unfold strD at q
  split at q
  · split at q
    · rw [rd.int] at r
      exact call_str_int pins s σ H _ _ Q I (.cons r .nil) ⟨_, rfl, by assumption, q.val rs RD.mstr⟩
    · exact q.elim
  · exact q.elim
theorem cd_len : CallR1 X (.builtin "len") (rOf1 X.K lenD) := by
  intro pins s σ H x u Q I r h
  obtain ⟨ι, S, d, rs, rd, q⟩ := h
  unfold lenD at q
  split at q
  · split at q
    · rw [rd.str] at r
      exact call_len_str pins s σ H _ _ Q I (.cons r .nil) ⟨_, rfl, by assumption, q.val rs RD.mint⟩
    · exact q.elim
  · split at q
    · rename_i ds hs
      obtain ⟨a, vs, rfl, h1, h2⟩ := seqD_ok rs rd hs
      refine call_len_seq pins s σ H _ _ Q I (.cons r .nil) ⟨a, vs, rfl, h1, ?_⟩
      rw [← h2.length]
      exact q.val rs RD.mint
    · exact q.elim
theorem cd_tuple : CallR1 X (.type "tuple") (rOf1 X.K tupleD) := by
  intro pins s σ H x u Q I r h
  obtain ⟨ι, S, d, rs, rd, q⟩ := h
  unfold tupleD at q
  split at q
  · rename_i ds hs
    obtain ⟨a, vs, rfl, h1, h2⟩ := seqD_ok rs rd hs
    rcases h1 with h1 | h1
    · exact call_tuple_of pins s σ H _ _ Q I (.cons r .nil) ⟨a, vs, rfl, .inl ⟨h1, fun p hp => q.newT rs h2 hp⟩⟩
    · exact call_tuple_of pins s σ H _ _ Q I (.cons r .nil) ⟨a, vs, rfl, .inr ⟨h1, q.val rs (by unfold RD; exact ⟨a, vs, rfl, h1, h2⟩)⟩⟩
  · exact q.elim
theorem cd_list : CallR1 X (.type "list") (rOf1 X.K listD) := by
  intro pins s σ H x u Q I r h
  obtain ⟨ι, S, d, rs, rd, q⟩ := h
  unfold listD at q
  split at q
  · rename_i ds hs
    obtain ⟨a, vs, rfl, h1, h2⟩ := seqD_ok rs rd hs
    exact call_list_of pins s σ H _ _ Q I (.cons r .nil) ⟨a, vs, rfl, h1, fun p hp => q.newL rs h2 hp⟩
  · exact q.elim
theorem cd_all (hc : X.calm = true) : CallR1 X (.builtin "all") (rOf1 X.K allD) := by
  intro pins s σ H x u Q I r h
  obtain ⟨ι, S, d, rs, rd, q⟩ := h
  unfold allD at q
  split at q
  · rename_i ds hs
    split at q
    · rename_i bs hb
      obtain ⟨a, vs, rfl, h1, h2⟩ := itemsD_ok rs rd hs
      rw [blsD_ok h2 hb] at h1
      exact cr_all hc pins s σ H _ _ Q I (.cons r .nil) ⟨a, bs, rfl, h1, q.val rs RD.mbl⟩
    · exact q.elim
  · exact q.elim
theorem cd_any (hc : X.calm = true) : CallR1 X (.builtin "any") (rOf1 X.K anyD) := by
  intro pins s σ H x u Q I r h
  obtain ⟨ι, S, d, rs, rd, q⟩ := h
  unfold anyD at q
  split at q
  · rename_i ds hs
    split at q
    · rename_i bs hb
      obtain ⟨a, vs, rfl, h1, h2⟩ := itemsD_ok rs rd hs
      rw [blsD_ok h2 hb] at h1
      exact cr_any hc pins s σ H _ _ Q I (.cons r .nil) ⟨a, bs, rfl, h1, q.val rs RD.mbl⟩
    · exact q.elim
  · exact q.elim
theorem cd_sum (hc : X.calm = true) : CallR1 X (.builtin "sum") (rOf1 X.K sumD) := by
  intro pins s σ H x u Q I r h
  obtain ⟨ι, S, d, rs, rd, q⟩ := h
  unfold sumD at q
  split at q
  · split at q
    · rename_i bs hb
      obtain ⟨a, vs, rfl, h1, h2⟩ := rd.tup
      rw [intsD_ok h2 hb] at h1
      exact cr_sumT hc pins s σ H _ _ Q I (.cons r .nil) ⟨a, bs, rfl, h1, q.val rs RD.mint⟩
    · exact q.elim
  split at q
  · rename_i ds hs
    split at q
    · rename_i bs hb
      obtain ⟨a, vs, rfl, h1, h2⟩ := itemsD_ok rs rd hs
      rw [intsD_ok h2 hb] at h1
      exact cr_sum hc pins s σ H _ _ Q I (.cons r .nil) ⟨a, bs, rfl, h1, q.val rs RD.mint⟩
    · exact q.elim
  · exact q.elim
theorem cd_repr (hg : X.A.guards = some []) (hu : X.A.units + 64 < cLine) : CallR1 X (.builtin "repr") (rOf1 X.K reprD) := by
  intro pins s σ H x u Q I r h
  obtain ⟨ι, S, d, rs, rd, q⟩ := h
  unfold reprD at q
  split at q
  · rename_i p hp
    split at q
    · rename_i ho
      obtain ⟨o1, o0, o2, o3⟩ := ho
      have hd := py_ok rs rd hp
      obtain ⟨as, hr⟩ := Dp.reads I p _ u hd r
      have fin : Q (.str p.shown) H := q.val rs RD.mstr
      cases hd with
      | non => cases r; exact PySem.P.repr_of_none ⟨.str _, H, I.tok _, ⟨_, rfl⟩, fin⟩
      | bl b => cases r; exact PySem.P.repr_of_bool ⟨.str (if b then "True" else "False" : String), H, I.tok _, ⟨_, by cases b <;> rfl⟩, by cases b <;> exact fin⟩
      | int i =>
        obtain ⟨t, rfl⟩ := r
        exact PySem.P.repr_of_int (by simpa [PyData.showable] using o1) ⟨.str _, H, I.tok _, ⟨_, rfl⟩, fin⟩
      | str z =>
        obtain ⟨t, rfl⟩ := r
        exact PySem.P.repr_of_str ⟨.str _, H, I.tok _, ⟨_, rfl⟩, fin⟩ o3
      | lst hs ha =>
        cases r
        exact repr_of_reads' hr o1 (fun z => by rw [PyData.hasDict_of_canLay _ o0] at z; cases z) hg (by omega) (fun _ _ e => e) (fun h' u tk hk => ⟨.str _, H, I.kept hk, ⟨_, rfl⟩, fin⟩) o3
      | tup hs ha =>
        cases r
        exact repr_of_reads' hr o1 (fun z => by rw [PyData.hasDict_of_canLay _ o0] at z; cases z) hg (by omega) (fun _ _ e => e) (fun h' u tk hk => ⟨.str _, H, I.kept hk, ⟨_, rfl⟩, fin⟩) o3
    · exact q.elim
  · exact q.elim
end
end DL
set_option Elab.async false
set_option linter.all false
set_option maxRecDepth 100000
/-! DExpr: what expressions are worth, by their trees; that the machine agrees. -/
namespace DL
open PySem L2

/-! ### a def of the text, by what it does upon values -/
abbrev Fn := List D → SS → R D
def PostF (K : PySem.W.Frag) (ι : List Addr) (H : Hp) (r : R D) (Q : VK) (E : XK) : Prop :=
  match r with
  | .ok x S' => ∀ v H' ι', Gr K H ι H' ι' → RelS K H' ι' S' → RD K H' ι' x v → Q v H'
  | .exc C fs S' => ∀ H' ι' dd fs', Gr K H ι H' ι' → RelS K H' ι' S' → H' dd = some (.xd fs') → RF K H' ι' fs fs' → E (.ref C) (some dd) H'
  | .bad => False
def spD (K : PySem.W.Frag) (f : Fn) (n : Nat) : Sp := fun vs H Q E => vs.length = n ∧ ∃ ι S ds, RelS K H ι S ∧ RDs K H ι ds vs ∧ PostF K ι H (f ds S) Q E
/-- the def at f does what fD says; nothing is being shown by repr meanwhile -/
structure FnG (P : Program) (w : World) (K : PySem.W.Frag) (mg : Str → Option Value) (base : Heap) (k : Nat) (f : Addr) (fd : FuncData) (ps : List Str) (fD : Fn) : Prop where
  go : ∀ (A : Around) (outer : List Env) (s : Shared) (H : Hp) (args : Args) (us : List Value) (vs : List V) (Q : VK) (E : XK), Room k A → A.guards = some [] → Env0 P w K mg base A outer s H →
    BindsTo s fd args (ps.zip us) → Vals vs us → spD K fD ps.length vs H Q E → codeAny (model P w) A (.call (.ref f) args) (CR (L2.CX P w) outer P w H s Q E) s
theorem FnG.up {P : Program} {w : World} {K : PySem.W.Frag} {mg : Str → Option Value} {base : Heap} {j k : Nat} {f : Addr} {fd : FuncData} {ps : List Str} {fD : Fn} (F : FnG P w K mg base j f fd ps fD) (h : j ≤ k) : FnG P w K mg base k f fd ps fD :=
  ⟨fun A outer s H args us vs Q E hr => F.go A outer s H args us vs Q E (hr.mono h)⟩

/-! ### an own class of errors, called -/
/-- at e: an error of the class at C, made anew; its dict, at d, holds mm -/
structure MadeX (h h' : Heap) (e C d t1 : Addr) (mm : Str → Option Value) : Prop where
  keep : ∀ b o, h.get? b = some o → h'.get? b = some o
  new : h.objs.size ≤ e
  obj : h'.get? e = some { cls := .ref C, dict := some d, data := .fields #[.ref t1, .none, .none, .none, .bool false, .none] }
  dnew : ∀ b o, h.get? b = some o → b ≠ d
  dne : d ≠ e
  ns : h'.Ns1 d mm
structure ExcG (P : Program) (w : World) (K : PySem.W.Frag) (mg : Str → Option Value) (base : Heap) (C : Addr) (fs : List Str) : Prop where
  kC : PySem.W.keepIn K (.ref C) = true
  exC : PySem.W.subIn K (.ref C) (.type "BaseException") = some true
  tC : PySem.W.typeIn K (.ref C) = some (.type "type")
  ne : fs ≠ []
  go : ∀ (A : Around) (s : Shared) (us : List Value) (vs : List V) (Q : Value → Shared → Prop) (E : Value → Shared → Prop), Room 1 A → Mod K mg base → (∀ b o, base.get? b = some o → s.heap.get? b = some o) → us.length = fs.length → Vals vs us →
    (∀ h' tk e d t1 mm, MadeX s.heap h' e C d t1 mm → (∀ g, RelO ((fs.zip vs).reverse.lookup g) (mm g)) → Q (.ref e) { s with heap := h', toks := tk }) → wpAny (model P w) A (call (.ref C) us) Q E s

/-! ### what a name of the module means -/
inductive GV where
  /-- an own class of errors -/
  | ex (C : Addr) (fs : List Str)
  | val (d : D)
  | bi (b : Bi)
  | fn (f : Fn) (n : Nat)
  /-- the last parameter may lack -/
  | fnd (f : Fn) (n : Nat) (d : D)
  /-- range, enumerate, zip: only gone through -/
  | it
structure BiOk (b : Bi) : Prop where
  boot : bootBuiltins b.name = some b.v
  kind : (∃ id, b.v = .builtin id) ∨ ∃ T, b.v = .type T
  nm : b.name ≠ "__name__"
  nd : (b.name == ("__debug__" : Str)) = false
  call : ∀ X : Cx, X.calm = true → X.A.guards = some [] → X.A.units + 64 < cLine → CallR X b.v (rOfL X.K b.g)
def GOk (X : Cx) (x : Str) : GV → Prop
  | .val d => (x == ("__debug__" : Str)) = false ∧ ∃ u v, X.mg x = some u ∧ RelV v u ∧ ∀ H ι, RD X.K H ι d v
  | .bi b => b.name = x ∧ X.mg x = none ∧ BiOk b
  | .it => X.mg x = none
  | .ex C fs => (x == ("__debug__" : Str)) = false ∧ X.mg x = some (.ref C) ∧ ExcG X.prog X.w X.K X.mg X.base C fs ∧ Room 1 X.A
  | .fn f n => (x == ("__debug__" : Str)) = false ∧ ∃ fa fd ps k, X.mg x = some (.ref fa) ∧ PySem.W.keepIn X.K (.ref fa) = true ∧ FnG X.prog X.w X.K X.mg X.base k fa fd ps f ∧ ps.length = n ∧ Room k X.A ∧ Binds X.K fd ps []
  | .fnd f n d => (x == ("__debug__" : Str)) = false ∧ ∃ fa fd ps k, X.mg x = some (.ref fa) ∧ PySem.W.keepIn X.K (.ref fa) = true ∧ FnG X.prog X.w X.K X.mg X.base k fa fd ps f ∧ ps.length = n ∧ Room k X.A ∧ Binds X.K fd ps [] ∧ ∃ dv v, Binds X.K fd ps [dv] ∧ RelV v dv ∧ ∀ H ι, RD X.K H ι d v
/-- what is known ahead: the names by slot, the scope, the module's names -/
structure SE where
  N : List Str
  sc : Scope
  fn : Str → Bool
  G : Str → Option GV
structure Ctx (X : Cx) (W : WX) (E : SE) : Prop where
  n : X.N = E.N
  sc : X.env.scope = E.sc
  nd : E.N.Nodup
  calm : X.calm = true
  gd : X.A.guards = some []
  un : X.A.units + 64 < cLine
  tk : Takes X W
  fn : ∀ x, E.fn x = true → X.fn x = true
  g : ∀ x v, E.G x = some v → GOk X x v

/-! ### the forms -/
def eVar (i : Nat) : PEx := fun δ S => match δ[i]? with
  | some (some d) => .ok d S
  | _ => .bad
def eC (d : D) : PEx := fun _ S => .ok d S
def eBad : PEx := fun _ _ => .bad
def eOp1 (g : G1) (a : PEx) : PEx := fun δ S => (a δ S).bind fun x S1 => R.ofO (g x S1)
def eOp2 (g : G2) (a b : PEx) : PEx := fun δ S => (a δ S).bind fun x S1 => (b δ S1).bind fun y S2 => R.ofO (g x y S2)
def eIf (t : PTs') (a b : PEx) : PEx := fun δ S => (t δ S).bind fun c S1 => if c = true then a δ S1 else b δ S1
def aNil : PAs := fun _ S => .ok [] S
def aBad : PAs := fun _ _ => .bad
def aCons (a : PEx) (r : PAs) : PAs := fun δ S => (a δ S).bind fun x S1 => (r δ S1).bind fun xs S2 => .ok (x :: xs) S2
def eTup (a : PAs) : PEx := fun δ S => (a δ S).bind fun xs S1 => if xs.length ≤ sizeLine then .ok (.tup xs) S1 else .bad
def eLst (a : PAs) : PEx := fun δ S => (a δ S).bind fun xs S1 => if xs.length ≤ sizeLine then .ok (.ref S1.length) (S1 ++ [.lst xs]) else .bad
def eCB (g : GL) (a : PAs) : PEx := fun δ S => (a δ S).bind fun xs S1 => R.ofO (g xs S1)
def eCall (f : Fn) (n : Nat) (a : PAs) : PEx := fun δ S => (a δ S).bind fun xs S1 => if xs.length = n then f xs S1 else .bad
def negD : G1
  | .int i, S => some (.int (-i), S)
  | _, _ => none
def ofT (r : Option Bool) (S : SS) : R Bool := match r with
  | some b => .ok b S
  | none => .bad
def notD : G1 := fun d S => match truD d S with
  | some b => some (.bl (!b), S)
  | none => none
def eAnd (a b : PEx) : PEx := fun δ S => (a δ S).bind fun x S1 => (ofT (truD x S1) S1).bind fun c S2 => if c = true then b δ S2 else .ok x S2
def eOr (a b : PEx) : PEx := fun δ S => (a δ S).bind fun x S1 => (ofT (truD x S1) S1).bind fun c S2 => if c = true then .ok x S2 else b δ S2
def boolOf : D → Option Bool
  | .bl b => some b
  | _ => none
def eChain (g g' : G2) (a b c : PEx) : PEx := fun δ S => (a δ S).bind fun x S1 => (b δ S1).bind fun y S2 => (R.ofO (g x y S2)).bind fun z S3 => (ofT (boolOf z) S3).bind fun k S4 =>
  if k = true then (c δ S4).bind fun z' S5 => R.ofO (g' y z' S5) else .ok (.bl false) S4
def tTru (a : PEx) : PTs' := fun δ S => (a δ S).bind fun x S1 => ofT (truD x S1) S1
def tVal (a : PEx) : PTs' := fun δ S => (a δ S).bind fun x S1 => ofT (boolOf x) S1
def tNot' (t : PTs') : PTs' := fun δ S => (t δ S).bind fun c S1 => .ok (!c) S1
def tAnd' (t u : PTs') : PTs' := fun δ S => (t δ S).bind fun c S1 => if c = true then u δ S1 else .ok false S1
def tOr' (t u : PTs') : PTs' := fun δ S => (t δ S).bind fun c S1 => if c = true then .ok true S1 else u δ S1
def tIf' (t a b : PTs') : PTs' := fun δ S => (t δ S).bind fun c S1 => if c = true then a δ S1 else b δ S1
def tBad : PTs' := fun _ _ => .bad
def ixD : G2 := fun d e S => match e with
  | .int i => match d with
    | .str z => if z.length ≤ sizeLine then (atI z.cps.toList i).map fun c => (.str ⟨#[c]⟩, S) else none
    | d => match seqD d S with
      | some ds => (atI ds i).map fun x => (x, S)
      | none => none
  | _ => none
def cutD (xs : List D) (lo hi : Option Int) : List D := (xs.drop (HT.sIx xs.length 0 lo)).take (HT.sIx xs.length xs.length hi - HT.sIx xs.length 0 lo)
def slD (lo hi : Option Int) : G1 := fun d S => match d with
  | .str z => if z.length ≤ sizeLine then some (.str (cutS z lo hi), S) else none
  | .tup ds => some (.tup (cutD ds lo hi), S)
  | d => match itemsD d S with
    | some ds => some (.ref S.length, S ++ [.lst (cutD ds lo hi)])
    | none => none
def intOf : D → Option Int
  | .int i => some i
  | _ => none
/-- a slice's part -/
abbrev PO' := Sl → SS → R (Option Int)
def oNone : PO' := fun _ S => .ok none S
def oSome (a : PEx) : PO' := fun δ S => (a δ S).bind fun x S1 => match intOf x with
  | some i => .ok (some i) S1
  | none => .bad
def eSl (a : PEx) (lo hi : PO') : PEx := fun δ S => (a δ S).bind fun x S1 => (lo δ S1).bind fun l S2 => (hi δ S2).bind fun u S3 => R.ofO (slD l u x S3)
/-- [::-1] of a list, of a tuple -/
def revD : G1 := fun d S => match d with
  | .tup ds => some (.tup ds.reverse, S)
  | d => match itemsD d S with
    | some ds => some (.ref S.length, S ++ [.lst ds.reverse])
    | none => none

section
variable {X : Cx} {W : WX} {a b c : Expr} {es : List Expr} {fa fb fc : PEx} {f : PAs} {t u v : PTs'} {pos : Pos}
theorem pe_bad {e : Expr} : PE X e (tOf X.K W eBad) := ⟨fun _ _ _ _ _ _ ⟨_, _, _, _, _, h⟩ => h.elim⟩
theorem pt_bad {e : Expr} : PT X e (tOfT X.K W tBad) := ⟨fun _ _ _ _ _ _ ⟨_, _, _, _, _, h⟩ => h.elim⟩
theorem pw_bad {e : Expr} : PW X e (tOfT X.K W tBad) := ⟨fun _ _ _ _ _ _ _ ⟨_, _, _, _, _, h⟩ => h.elim⟩
theorem pa_bad {e : List Expr} : PA X e (tOfA X.K W aBad) := ⟨fun _ _ _ _ _ _ _ ⟨_, _, _, _, _, h⟩ => h.elim⟩
theorem de_c {d : D} {v : V} {e : Expr} (h : PE X e (tC v)) (r : ∀ H ι, RD X.K H ι d v) : PE X e (tOf X.K W (eC d)) :=
  PE.imp h fun σ H Q ⟨ι, S, δ, rs, ro, q⟩ => q v H ι Gr.refl rs (r H ι)
theorem de_var {i : Nat} {x : Str} (hN : X.N[i]? = some x) (hv : Vis X.env.scope x) (h1 : (x == ("__debug__" : Str)) = false) (h2 : (x == ("__classdict__" : Str)) = false) : PE X (.Name x pos) (tOf X.K W (eVar i)) :=
  PE.imp (pe_var hN hv h1 h2) fun σ H Q ⟨ι, S, δ, rs, ro, q⟩ => by
    unfold eVar at q
    split at q
    · rename_i d hd
      obtain ⟨v, e, r⟩ := ro.2 i d hd
      exact ⟨v, e, q v H ι Gr.refl rs r⟩
    · exact q.elim
theorem de_op1 {g : G1} {e : Expr} {r : V → Hp → VK → Prop} (h : PE X e (fun σ H Q => tOf X.K W fa σ H fun x H1 => r x H1 Q)) (i : ∀ x H Q, rOf1 X.K g x H Q → r x H Q) : PE X e (tOf X.K W (eOp1 g fa)) :=
  PE.imp h fun σ H Q ⟨ι, S, δ, rs, ro, q⟩ => ⟨ι, S, δ, rs, ro, Post.mono (Post.bind (rel := RD X.K) q) fun v H1 ⟨ι1, S1, x, g1, rs1, rx, q1⟩ => i _ _ _ ⟨ι1, S1, x, rs1, rx, q1.ofO⟩⟩
theorem de_op2 {g : G2} {e : Expr} {r : R2} (h : PE X e (tOp r (tOf X.K W fa) (tOf X.K W fb))) (i : ∀ x y H Q, rOf2 X.K g x y H Q → r x y H Q) : PE X e (tOf X.K W (eOp2 g fa fb)) :=
  PE.imp h fun σ H Q ⟨ι, S, δ, rs, ro, q⟩ => ⟨ι, S, δ, rs, ro, Post.mono (Post.bind (rel := RD X.K) q) fun v H1 ⟨ι1, S1, x, g1, rs1, rx, q1⟩ =>
    ⟨ι1, S1, δ, rs1, ro.mono g1, Post.mono (Post.bind (rel := RD X.K) q1) fun v2 H2 ⟨ι2, S2, y, g2, rs2, ry, q2⟩ => i _ _ _ _ ⟨ι2, S2, x, y, rs2, rx.mono g2, ry, q2.ofO⟩⟩⟩
theorem de_bin {op : Operator} (ha : PE X a (tOf X.K W fa)) (hb : PE X b (tOf X.K W fb)) : PE X (.BinOp a op b pos) (tOf X.K W (eOp2 (binD op) fa fb)) :=
  de_op2 (pe_op (od_bin op) ha hb) fun _ _ _ _ h => h
theorem de_neg (ha : PE X a (tOf X.K W fa)) : PE X (.UnaryOp .USub a pos) (tOf X.K W (eOp1 negD fa)) :=
  de_op1 (r := rU fun i => .int (-i)) (pe_un un_neg ha) fun x H Q ⟨ι, S, d, rs, rd, q⟩ => by
    unfold negD at q
    split at q
    · exact ⟨_, rd.int, q.val rs RD.mint⟩
    · exact q.elim
theorem de_not (ha : PE X a (tOf X.K W fa)) : PE X (.UnaryOp .Not a pos) (tOf X.K W (eOp1 notD fa)) :=
  de_op1 (r := fun x H Q => ∃ k, TruV X.K x H k ∧ Q (.bl (!k)) H) (pe_notT ha) fun x H Q ⟨ι, S, d, rs, rd, q⟩ => by
    unfold notD at q
    split at q
    · rename_i k hk
      exact ⟨k, truD_ok rs rd hk, q.val rs RD.mbl⟩
    · exact q.elim
theorem de_if (hc : PT X c (tOfT X.K W t)) (ha : PE X a (tOf X.K W fa)) (hb : PE X b (tOf X.K W fb)) : PE X (.IfExp c a b pos) (tOf X.K W (eIf t fa fb)) :=
  PE.imp (pe_ifExp hc ha hb) fun σ H Q ⟨ι, S, δ, rs, ro, q⟩ => ⟨ι, S, δ, rs, ro, Post.mono (Post.bind (rel := rB) q) fun k H1 ⟨ι1, S1, k', g1, rs1, e, q1⟩ => by
    have e : k' = k := e
    subst e
    cases k' with
    | true => exact ⟨ι1, S1, δ, rs1, ro.mono g1, q1⟩
    | false => exact ⟨ι1, S1, δ, rs1, ro.mono g1, q1⟩⟩
theorem da_nil : PA X [] (tOfA X.K W aNil) :=
  PA.imp pa_nil fun σ H Q ⟨ι, S, δ, rs, ro, q⟩ => q [] H ι Gr.refl rs RDs.nil
theorem da_cons (ha : PE X a (tOf X.K W fa)) (hr : PA X es (tOfA X.K W f)) (hs : starEach (a :: es) X.env = (false, eval a X.env) :: starEach es X.env) : PA X (a :: es) (tOfA X.K W (aCons fa f)) :=
  PA.imp (pa_cons ha hr hs) fun σ H Q ⟨ι, S, δ, rs, ro, q⟩ => ⟨ι, S, δ, rs, ro, Post.mono (Post.bind (rel := RD X.K) q) fun v H1 ⟨ι1, S1, x, g1, rs1, rx, q1⟩ =>
    ⟨ι1, S1, δ, rs1, ro.mono g1, Post.mono (Post.bind (rel := RDs X.K) q1) fun vs H2 ⟨ι2, S2, xs, g2, rs2, rxs, q2⟩ => q2 _ H2 ι2 Gr.refl rs2 (RDs.cons (rx.mono g2) rxs)⟩⟩
theorem de_tup {n : Nat} (h : PA X es (tOfA X.K W f)) : PE X (.Tuple es n pos) (tOf X.K W (eTup f)) :=
  PE.imp (pe_tup h) fun σ H Q ⟨ι, S, δ, rs, ro, q⟩ => ⟨ι, S, δ, rs, ro, Post.mono (Post.bind (rel := RDs X.K) q) fun vs H1 ⟨ι1, S1, xs, g1, rs1, rx, q1⟩ => by
    split at q1
    · rename_i hl
      refine ⟨by rw [← rx.length]; exact hl, fun p hp => ?_⟩
      exact PostN.newT (K := X.K) (ι := ι1) (S := S1) (ds := xs) (Q := Q) q1 rs1 rx hp
    · exact q1.elim⟩
theorem de_lst (h : PA X es (tOfA X.K W f)) : PE X (.List es pos) (tOf X.K W (eLst f)) :=
  PE.imp (pe_lst h) fun σ H Q ⟨ι, S, δ, rs, ro, q⟩ => ⟨ι, S, δ, rs, ro, Post.mono (Post.bind (rel := RDs X.K) q) fun vs H1 ⟨ι1, S1, xs, g1, rs1, rx, q1⟩ => by
    split at q1
    · rename_i hl
      refine ⟨by rw [← rx.length]; exact hl, fun p hp => ?_⟩
      exact PostN.newL (K := X.K) (ι := ι1) (S := S1) (ds := xs) (Q := Q) q1 rs1 rx hp
    · exact q1.elim⟩
theorem Post.ofT {K : PySem.W.Frag} {ι : List Addr} {H : Hp} {σ : St} {r : Option Bool} {S : SS} {Q : Bool → Hp → Prop} (h : Post rB K W ι H σ (ofT r S) Q) (s : RelS K H ι S) : ∃ k, r = some k ∧ Q k H := by
  cases r with
  | none => exact h.elim
  | some k => exact ⟨k, rfl, h k H ι Gr.refl s rfl⟩
theorem Post.ofTb {α β : Type} {rel : Hp → List Addr → α → β → Prop} {K : PySem.W.Frag} {ι : List Addr} {H : Hp} {σ : St} {r : Option Bool} {S : SS} {k : Bool → SS → R α} {Q : β → Hp → Prop} (h : Post rel K W ι H σ ((DL.ofT r S).bind k) Q) : ∃ b, r = some b ∧ Post rel K W ι H σ (k b S) Q := by
  cases r with
  | none => exact h.elim
  | some b => exact ⟨b, rfl, h⟩
theorem de_and {rest : List Expr} (ha : PE X a (tOf X.K W fa)) (hb : PE X (.BoolOp .And (b :: rest) pos) (tOf X.K W fb)) : PE X (.BoolOp .And (a :: b :: rest) pos) (tOf X.K W (eAnd fa fb)) :=
  PE.imp (pe_andT ha hb) fun σ H Q ⟨ι, S, δ, rs, ro, q⟩ => ⟨ι, S, δ, rs, ro, Post.mono (Post.bind (rel := RD X.K) q) fun v H1 ⟨ι1, S1, x, g1, rs1, rx, q1⟩ => by
    obtain ⟨k, e, q2⟩ := q1.ofTb
    refine ⟨k, truD_ok rs1 rx e, ?_⟩
    cases k with
    | true => exact ⟨ι1, S1, δ, rs1, ro.mono g1, q2⟩
    | false => exact q2 v H1 ι1 Gr.refl rs1 rx⟩
theorem de_or {rest : List Expr} (ha : PE X a (tOf X.K W fa)) (hb : PE X (.BoolOp .Or (b :: rest) pos) (tOf X.K W fb)) : PE X (.BoolOp .Or (a :: b :: rest) pos) (tOf X.K W (eOr fa fb)) :=
  PE.imp (pe_orT ha hb) fun σ H Q ⟨ι, S, δ, rs, ro, q⟩ => ⟨ι, S, δ, rs, ro, Post.mono (Post.bind (rel := RD X.K) q) fun v H1 ⟨ι1, S1, x, g1, rs1, rx, q1⟩ => by
    obtain ⟨k, e, q2⟩ := q1.ofTb
    refine ⟨k, truD_ok rs1 rx e, ?_⟩
    cases k with
    | true => exact q2 v H1 ι1 Gr.refl rs1 rx
    | false => exact ⟨ι1, S1, δ, rs1, ro.mono g1, q2⟩⟩
theorem de_cmp {op : CmpOp} (hu : X.A.units + 64 < cLine) (ha : PE X a (tOf X.K W fa)) (hb : PE X b (tOf X.K W fb)) (hm : behindInMarks op b = false) : PE X (.Compare a [op] [b] pos) (tOf X.K W (eOp2 (cmpD op) fa fb)) :=
  de_op2 (pe_cmpR (oc_cmp hu op) ha hb hm) fun _ _ _ _ h => h
theorem boolOf_ok {K : PySem.W.Frag} {ι : List Addr} {H : Hp} {d : D} {v : V} {k : Bool} (r : RD K H ι d v) (h : boolOf d = some k) : v = .bl k := by
  cases d with
  | bl b => cases h; exact r.bl
  | _ => cases h
theorem dt_val (hx : PT X c (tTest (tOf X.K W fa))) : PT X c (tOfT X.K W (tVal fa)) :=
  PT.imp hx fun σ H Q ⟨ι, S, δ, rs, ro, q⟩ => ⟨ι, S, δ, rs, ro, Post.mono (Post.bind (rel := RD X.K) q) fun v H1 ⟨ι1, S1, x, g1, rs1, rx, q1⟩ => by
    obtain ⟨k, e, q2⟩ := q1.ofT rs1
    exact ⟨k, boolOf_ok rx e, q2⟩⟩
theorem PostN.imp {K : PySem.W.Frag} {ι : List Addr} {H : Hp} {r : Option (D × SS)} {Q Q' : VK} (h : PostN K ι H r Q) (i : ∀ v H', Q v H' → Q' v H') : PostN K ι H r Q' := by
  cases r with
  | none => exact h
  | some p => exact fun v H' ι' g s q => i _ _ (h v H' ι' g s q)
theorem dt_cmp {op : CmpOp} (hu : X.A.units + 64 < cLine) (ha : PE X a (tOf X.K W fa)) (hb : PE X b (tOf X.K W fb)) (hm : behindInMarks op b = false) : PT X (.Compare a [op] [b] pos) (tOfT X.K W (tVal (eOp2 (cmpD op) fa fb))) := by
  refine PT.imp (pt_cmpR (oc_cmp hu op) ha hb hm) fun σ H Q ⟨ι, S, δ, rs, ro, q⟩ => ?_
  refine ⟨ι, S, δ, rs, ro, ?_⟩
  have q0 : Post rB X.K W ι H σ ((fa δ S).bind fun x S1 => ((fb δ S1).bind fun y S2 => R.ofO (cmpD op x y S2)).bind fun x S1 => ofT (boolOf x) S1) Q := by
    have e : tVal (eOp2 (cmpD op) fa fb) δ S = ((fa δ S).bind fun x S1 => ((fb δ S1).bind fun y S2 => R.ofO (cmpD op x y S2)).bind fun x S1 => ofT (boolOf x) S1) := by
      unfold tVal eOp2
      cases fa δ S <;> rfl
    rw [e] at q
    exact q
  refine Post.mono (Post.bind (rel := RD X.K) q0) fun v H1 ⟨ι1, S1, x, g1, rs1, rx, q1⟩ => ⟨ι1, S1, δ, rs1, ro.mono g1, ?_⟩
  have q2 : Post rB X.K W ι1 H1 σ ((fb δ S1).bind fun y S2 => (R.ofO (cmpD op x y S2)).bind fun x S1 => ofT (boolOf x) S1) Q := by
    have e : ((fb δ S1).bind fun y S2 => R.ofO (cmpD op x y S2)).bind (fun x S1 => ofT (boolOf x) S1) = ((fb δ S1).bind fun y S2 => (R.ofO (cmpD op x y S2)).bind fun x S1 => ofT (boolOf x) S1) := by
      cases fb δ S1 <;> rfl
    rw [e] at q1
    exact q1
  refine Post.mono (Post.bind (rel := RD X.K) q2) fun v2 H2 ⟨ι2, S2, y, g2, rs2, ry, q3⟩ => ⟨ι2, S2, x, y, rs2, rx.mono g2, ry, ?_⟩
  have q4 := Post.bind (rel := RD X.K) q3
  refine PostN.imp q4.ofO fun v3 H3 ⟨ι3, S3, z, g3, rs3, rz, q5⟩ => ?_
  obtain ⟨k, e, q6⟩ := q5.ofT rs3
  exact ⟨k, boolOf_ok rz e, q6⟩
theorem dt_truth (ha : PE X a (tOf X.K W fa)) (he : ∀ whole, isTrue a X.env whole = (do let v ← whole; standAt a.pos; holding [v] (truthy v))) : PT X a (tOfT X.K W (tTru fa)) :=
  PT.imp (pt_truth ha he) fun σ H Q ⟨ι, S, δ, rs, ro, q⟩ => ⟨ι, S, δ, rs, ro, Post.mono (Post.bind (rel := RD X.K) q) fun v H1 ⟨ι1, S1, x, g1, rs1, rx, q1⟩ => by
    obtain ⟨k, e, q2⟩ := q1.ofT rs1
    exact ⟨k, truD_ok rs1 rx e, q2⟩⟩
theorem dt_not (ha : PT X a (tOfT X.K W t)) : PT X (.UnaryOp .Not a pos) (tOfT X.K W (tNot' t)) :=
  PT.imp (pt_not ha) fun σ H Q ⟨ι, S, δ, rs, ro, q⟩ => ⟨ι, S, δ, rs, ro, Post.mono (Post.bind (rel := rB) q) fun k H1 ⟨ι1, S1, k', g1, rs1, e, q1⟩ => by
    have e : k' = k := e
    subst e
    exact q1 _ H1 ι1 Gr.refl rs1 rfl⟩
theorem dw_and {rest : List Expr} (ha : PT X a (tOfT X.K W t)) (hb : PW X (.BoolOp .And (b :: rest) pos) (tOfT X.K W u)) : PW X (.BoolOp .And (a :: b :: rest) pos) (tOfT X.K W (tAnd' t u)) := by
  refine ⟨fun wh pins s σ H Q I ⟨ι, S, δ, rs, ro, q⟩ => (pw_and ha hb).run wh pins s σ H Q I ⟨ι, S, δ, rs, ro, Post.mono (Post.bind (rel := rB) q) fun k H1 ⟨ι1, S1, k', g1, rs1, e, q1⟩ => ?_⟩⟩
  have e : k' = k := e
  subst e
  cases k' with
  | true => exact ⟨ι1, S1, δ, rs1, ro.mono g1, q1⟩
  | false => exact q1 _ H1 ι1 Gr.refl rs1 rfl
theorem dw_or {rest : List Expr} (ha : PT X a (tOfT X.K W t)) (hb : PW X (.BoolOp .Or (b :: rest) pos) (tOfT X.K W u)) : PW X (.BoolOp .Or (a :: b :: rest) pos) (tOfT X.K W (tOr' t u)) := by
  refine ⟨fun wh pins s σ H Q I ⟨ι, S, δ, rs, ro, q⟩ => (pw_or ha hb).run wh pins s σ H Q I ⟨ι, S, δ, rs, ro, Post.mono (Post.bind (rel := rB) q) fun k H1 ⟨ι1, S1, k', g1, rs1, e, q1⟩ => ?_⟩⟩
  have e : k' = k := e
  subst e
  cases k' with
  | true => exact q1 _ H1 ι1 Gr.refl rs1 rfl
  | false => exact ⟨ι1, S1, δ, rs1, ro.mono g1, q1⟩
end
end DL
set_option Elab.async false
set_option linter.all false
set_option maxRecDepth 100000
/-! DExpr2: chains, calls, subscripts, what is gone through, comprehensions. -/
namespace DL
open PySem L2
section
variable {X : Cx} {W : WX} {a b c : Expr} {es : List Expr} {fa fb fc : PEx} {f : PAs} {t u v : PTs'} {pos : Pos}
/-- a test that is a bool's value -/
theorem tVal_of {σ : St} {H : Hp} {Q : Bool → Hp → Prop} (h : tOfT X.K W (tVal fa) σ H Q) : tOf X.K W fa σ H fun x H1 => ∃ k, x = .bl k ∧ Q k H1 := by
  obtain ⟨ι, S, δ, rs, ro, q⟩ := h
  refine ⟨ι, S, δ, rs, ro, Post.mono (Post.bind (rel := RD X.K) q) fun v H1 ⟨ι1, S1, x, g1, rs1, rx, q1⟩ => ?_⟩
  obtain ⟨k, e, q2⟩ := q1.ofT rs1
  exact ⟨k, boolOf_ok rx e, q2⟩
theorem i_chain {op op' : CmpOp} {σ : St} {H : Hp} {Q : VK} (h : tOf X.K W (eChain (cmpD op) (cmpD op') fa fb fc) σ H Q) : tChain (rOf2 X.K (cmpD op)) (rOf2 X.K (cmpD op')) (tOf X.K W fa) (tOf X.K W fb) (tOf X.K W fc) σ H Q := by
  obtain ⟨ι, S, δ, rs, ro, q⟩ := h
  refine ⟨ι, S, δ, rs, ro, Post.mono (Post.bind (rel := RD X.K) q) fun v H1 ⟨ι1, S1, x, g1, rs1, rx, q1⟩ => ⟨ι1, S1, δ, rs1, ro.mono g1, ?_⟩⟩
  refine Post.mono (Post.bind (rel := RD X.K) q1) fun v2 H2 ⟨ι2, S2, y, g2, rs2, ry, q2⟩ => ⟨ι2, S2, x, y, rs2, rx.mono g2, ry, ?_⟩
  refine PostN.imp (Post.bind (rel := RD X.K) q2).ofO fun v3 H3 ⟨ι3, S3, z, g3, rs3, rz, q3⟩ => ?_
  obtain ⟨k, e, q4⟩ := q3.ofTb
  refine ⟨k, boolOf_ok rz e, ?_⟩
  cases k with
  | true =>
    refine ⟨ι3, S3, δ, rs3, (ro.mono g1).mono (g2.trans g3), Post.mono (Post.bind (rel := RD X.K) q4) fun v4 H4 ⟨ι4, S4, z', g4, rs4, rz', q5⟩ => ?_⟩
    exact ⟨ι4, S4, y, z', rs4, (ry.mono g3).mono g4, rz', q5.ofO⟩
  | false => exact q4 _ H3 ι3 Gr.refl rs3 RD.mbl
theorem de_chain {op op' : CmpOp} (hu : X.A.units + 64 < cLine) (ha : PE X a (tOf X.K W fa)) (hb : PE X b (tOf X.K W fb)) (hc : PE X c (tOf X.K W fc)) (hm : lastMarks [op, op'] [b, c] = false) : PE X (.Compare a [op, op'] [b, c] pos) (tOf X.K W (eChain (cmpD op) (cmpD op') fa fb fc)) :=
  PE.imp (pe_chain (oc_cmp hu op) (oc_cmp hu op') ha hb hc hm) fun _ _ _ h => i_chain h
theorem dt_chain {op op' : CmpOp} (hu : X.A.units + 64 < cLine) (ha : PE X a (tOf X.K W fa)) (hb : PE X b (tOf X.K W fb)) (hc : PE X c (tOf X.K W fc)) (hm : lastMarks [op, op'] [b, c] = false) : PT X (.Compare a [op, op'] [b, c] pos) (tOfT X.K W (tVal (eChain (cmpD op) (cmpD op') fa fb fc))) :=
  PT.imp (pt_chain (oc_cmp hu op) (oc_cmp hu op') ha hb hc hm) fun _ _ _ h => i_chain (tVal_of h)

/-! ### calls -/
theorem de_cb {B : Bi} {e : Expr} {p : Pos} {x : Str} (hB : BiOk B) (hx : B.name = x) (hm : X.mg x = none) (hg : Gl X x) (hc : X.calm = true) (gd : X.A.guards = some []) (hu : X.A.units + 64 < cLine) (ha : PA X (e :: es) (tOfA X.K W f))
    (he : starEach (e :: es) X.env = (false, eval e X.env) :: starEach es X.env) (hpl : (backTo pos (starEach es X.env)).any (·.1) = false) : PE X (.Call (.Name x p) (e :: es) [] pos) (tOf X.K W (eCB B.g f)) := by
  subst hx
  have hk := hB.call X hc gd hu
  have hb := hB.boot
  have i : ∀ σ H Q, tOf X.K W (eCB B.g f) σ H Q → tCB (rOfL X.K B.g) (tOfA X.K W f) σ H Q := fun σ H Q ⟨ι, S, δ, rs, ro, q⟩ =>
    ⟨ι, S, δ, rs, ro, Post.mono (Post.bind (rel := RDs X.K) q) fun vs H1 ⟨ι1, S1, xs, g1, rs1, rx, q1⟩ => ⟨ι1, S1, xs, rs1, rx, q1.ofO⟩⟩
  rcases hB.kind with ⟨id, e1⟩ | ⟨T, e1⟩
  · rw [e1] at hk hb
    exact PE.imp (pe_callB hk hg hm hb ha hB.nm hB.nd he hpl) i
  · rw [e1] at hk hb
    exact PE.imp (pe_callTy hk hg hm hb ha hB.nm hB.nd he hpl) i
theorem run_G {pins : List (Addr × Obj)} {σ : St} {H : Hp} {s : Shared} {Q : VK} {us : List Value} {vs : List V} {k : Nat} {fa : Addr} {fd : FuncData} {ps : List Str} {g : Fn} (F : FnG X.prog X.w X.K X.mg X.base k fa fd ps g) (room : Room k X.A) (gd : X.A.guards = some []) (bi : Binds X.K fd ps []) (tk : Takes X W)
    (I : L2.Inv X pins σ H s) (r : Vals vs us) (h : spD X.K g ps.length vs H Q (WE W σ)) : wpAny (model X.prog X.w) X.A (call (.ref fa) us) (EP X pins σ Q) X.xe s := by
  have len : us.length = ps.length := r.length ▸ h.1
  have bound := bi s us I.kIn (by simpa using len)
  rw [List.append_nil] at bound
  refine wpAny_call (codeAny_mono (F.go X.A X.stack s H ⟨us, []⟩ us vs Q (WE W σ) room gd I.env0 bound r h) fun res s' hq => ?_)
  match res, hq with
  | .error e, hq => exact passAt tk σ pins H s e s' I hq
  | .ok (.ret u), hq => exact I.after hq
theorem run_Gd {pins : List (Addr × Obj)} {σ : St} {H : Hp} {s : Shared} {Q : VK} {us : List Value} {vs : List V} {k n : Nat} {fa : Addr} {fd : FuncData} {ps : List Str} {g : Fn} {d : D} {dv : Value} {v : V} (F : FnG X.prog X.w X.K X.mg X.base k fa fd ps g) (room : Room k X.A) (gd : X.A.guards = some []) (bi : Binds X.K fd ps [dv]) (rv : RelV v dv) (hd : ∀ H ι, RD X.K H ι d v) (hn : n + 1 = ps.length) (tk : Takes X W)
    (I : L2.Inv X pins σ H s) (r : Vals vs us) (h : spD X.K (fun ds S => g (ds ++ [d]) S) n vs H Q (WE W σ)) : wpAny (model X.prog X.w) X.A (call (.ref fa) us) (EP X pins σ Q) X.xe s := by
  have len : us.length = n := r.length ▸ h.1
  have bound := bi s us I.kIn (by simpa [len] using hn)
  have h' : spD X.K g ps.length (vs ++ [v]) H Q (WE W σ) := by
    obtain ⟨h1, ι, S, ds, rs, rd, q⟩ := h
    exact ⟨by rw [List.length_append, h1]; exact hn, ι, S, ds ++ [d], rs, rd.append (RDs.cons (hd _ _) RDs.nil), q⟩
  refine wpAny_call (codeAny_mono (F.go X.A X.stack s H ⟨us, []⟩ (us ++ [dv]) (vs ++ [v]) Q (WE W σ) room gd I.env0 bound (r.append (.cons rv .nil)) h') fun res s' hq => ?_)
  match res, hq with
  | .error e, hq => exact passAt tk σ pins H s e s' I hq
  | .ok (.ret u), hq => exact I.after hq
theorem i_call {g : Fn} {n : Nat} {σ : St} {H : Hp} {Q : VK} (h : tOf X.K W (eCall g n f) σ H Q) : tOfA X.K W f σ H fun vs H1 => spD X.K g n vs H1 Q (WE W σ) := by
  obtain ⟨ι, S, δ, rs, ro, q⟩ := h
  refine ⟨ι, S, δ, rs, ro, Post.mono (Post.bind (rel := RDs X.K) q) fun vs H1 ⟨ι1, S1, xs, g1, rs1, rx, q1⟩ => ?_⟩
  split at q1
  · rename_i hl
    refine ⟨by rw [← rx.length]; exact hl, ι1, S1, xs, rs1, rx, ?_⟩
    cases hr : g xs S1 with
    | ok d S' => rw [hr] at q1; exact q1
    | exc C fs S' => rw [hr] at q1; exact q1
    | bad => rw [hr] at q1; exact q1
  · exact q1.elim
theorem de_call {k : Nat} {fa : Addr} {fd : FuncData} {ps : List Str} {g : Fn} {e : Expr} {p : Pos} {x : Str} (F : FnG X.prog X.w X.K X.mg X.base k fa fd ps g) (room : Room k X.A) (gd : X.A.guards = some []) (bi : Binds X.K fd ps []) (tk : Takes X W)
    (hg : Gl X x) (hm : X.mg x = some (.ref fa)) (hk : PySem.W.keepIn X.K (.ref fa) = true) (hdb : (x == ("__debug__" : Str)) = false) (ha : PA X (e :: es) (tOfA X.K W f))
    (he : starEach (e :: es) X.env = (false, eval e X.env) :: starEach es X.env) (hpl : (backTo pos (starEach es X.env)).any (·.1) = false) : PE X (.Call (.Name x p) (e :: es) [] pos) (tOf X.K W (eCall g ps.length f)) := by
  refine ⟨fun pins s σ H Q I h => wpAny_Call_Name_kw (ld_glob I hg hm ?_ hdb)⟩
  refine PySem.W.callWith_K (h₀ := X.base) I.ok.mod.kin hk ?_ he hpl
  exact thn (ha.run pos pins s σ H _ I (i_call h)) fun us s1 ⟨vs, H1, I1, r, q⟩ => ⟨I1.kIn, run_G F room gd bi tk I1 r q⟩
theorem de_calld {k n : Nat} {fa : Addr} {fd : FuncData} {ps : List Str} {g : Fn} {d : D} {dv : Value} {v : V} {e : Expr} {p : Pos} {x : Str} (F : FnG X.prog X.w X.K X.mg X.base k fa fd ps g) (room : Room k X.A) (gd : X.A.guards = some []) (bi : Binds X.K fd ps [dv]) (rv : RelV v dv) (hd : ∀ H ι, RD X.K H ι d v) (hn : n + 1 = ps.length) (tk : Takes X W)
    (hg : Gl X x) (hm : X.mg x = some (.ref fa)) (hk : PySem.W.keepIn X.K (.ref fa) = true) (hdb : (x == ("__debug__" : Str)) = false) (ha : PA X (e :: es) (tOfA X.K W f))
    (he : starEach (e :: es) X.env = (false, eval e X.env) :: starEach es X.env) (hpl : (backTo pos (starEach es X.env)).any (·.1) = false) : PE X (.Call (.Name x p) (e :: es) [] pos) (tOf X.K W (eCall (fun ds S => g (ds ++ [d]) S) n f)) := by
  refine ⟨fun pins s σ H Q I h => wpAny_Call_Name_kw (ld_glob I hg hm ?_ hdb)⟩
  refine PySem.W.callWith_K (h₀ := X.base) I.ok.mod.kin hk ?_ he hpl
  exact thn (ha.run pos pins s σ H _ I (i_call h)) fun us s1 ⟨vs, H1, I1, r, q⟩ => ⟨I1.kIn, run_Gd F room gd bi rv hd hn tk I1 r q⟩
theorem de_call0 {k : Nat} {fa : Addr} {fd : FuncData} {g : Fn} {p : Pos} {x : Str} (F : FnG X.prog X.w X.K X.mg X.base k fa fd [] g) (room : Room k X.A) (gd : X.A.guards = some []) (bi : Binds X.K fd [] []) (tk : Takes X W)
    (hg : Gl X x) (hm : X.mg x = some (.ref fa)) (hk : PySem.W.keepIn X.K (.ref fa) = true) (hdb : (x == ("__debug__" : Str)) = false) : PE X (.Call (.Name x p) [] [] pos) (tOf X.K W (eCall g 0 aNil)) := by
  refine ⟨fun pins s σ H Q I h => wpAny_Call_Name_kw (ld_glob I hg hm ?_ hdb)⟩
  obtain ⟨ι, S, δ, rs, ro, q⟩ := i_call h
  refine PySem.W.callWith_K0 I.kIn hk (run_G (us := []) F room gd bi tk I .nil (q [] H ι Gr.refl rs RDs.nil))

/-! ### subscripts -/
theorem atI_ok {K : PySem.W.Frag} {ι : List Addr} {H : Hp} {ds : List D} {vs : List V} {i : Int} {d : D} (r : RDs K H ι ds vs) (h : atI ds i = some d) : ∃ v, atI vs i = some v ∧ RD K H ι d v := by
  unfold atI at h ⊢
  rw [Option.bind_eq_some_iff] at h
  obtain ⟨j, e1, e2⟩ := h
  obtain ⟨v, h1, h2⟩ := r.get e2
  exact ⟨v, by rw [← r.length, e1]; exact h1, h2⟩
theorem rix_of {x y : V} {H : Hp} {Q : VK} (h : rOf2 X.K ixD x y H Q) : rIx X.K x y H Q := by
  obtain ⟨ι, S, d, e, rs, r1, r2, q⟩ := h
  unfold ixD at q
  split at q
  · split at q
    · split at q
      · rename_i hz
        rename_i i _ z
        cases hc : atI z.cps.toList i with
        | none => rw [hc] at q; exact q.elim
        | some c =>
          rw [hc] at q
          exact .inr (.inr ⟨z, i, c, r1.str, r2.int, hz, hc, q.val rs RD.mstr⟩)
      · exact q.elim
    · split at q
      · rename_i i _ _ _ ds hs
        cases hc : atI ds i with
        | none => rw [hc] at q; exact q.elim
        | some c =>
          rw [hc] at q
          obtain ⟨p, vs, rfl, h1, h2⟩ := seqD_ok rs r1 hs
          obtain ⟨v, h3, h4⟩ := atI_ok h2 hc
          rcases h1 with h1 | h1
          · exact .inl ⟨p, vs, i, v, rfl, r2.int, h1, h3, q.val rs h4⟩
          · exact .inr (.inl ⟨p, vs, i, v, rfl, r2.int, h1, h3, q.val rs h4⟩)
      · exact q.elim
  · exact q.elim
theorem de_ix (ha : PE X a (tOf X.K W fa)) (hb : PE X b (tOf X.K W fb)) (hs : PlainIx b) : PE X (.Subscript a b pos) (tOf X.K W (eOp2 ixD fa fb)) :=
  de_op2 (pe_ix ix_seq ha hb hs) fun _ _ _ _ h => rix_of h
/-! slices -/
structure PO2 (X : Cx) (W : WX) (e : Option Expr) (f : PO') : Prop where
  ok : ∃ t, PO X e t ∧ ∀ σ H Q, (∃ ι S δ, RelS X.K H ι S ∧ ROs X.K H ι δ σ ∧ Post (fun _ _ (a b : Option Int) => a = b) X.K W ι H σ (f δ S) Q) → t σ H Q
theorem do_none : PO2 X W none oNone := ⟨_, po_none, fun σ H Q ⟨ι, S, δ, rs, ro, q⟩ => q none H ι Gr.refl rs rfl⟩
theorem intOf_ok {K : PySem.W.Frag} {ι : List Addr} {H : Hp} {d : D} {v : V} {k : Int} (r : RD K H ι d v) (h : intOf d = some k) : v = .int k := by
  cases d with
  | int b => cases h; exact r.int
  | _ => cases h
theorem do_some (ha : PE X a (tOf X.K W fa)) : PO2 X W (some a) (oSome fa) := ⟨_, po_some ha, fun σ H Q ⟨ι, S, δ, rs, ro, q⟩ => ⟨ι, S, δ, rs, ro, Post.mono (Post.bind (rel := RD X.K) q) fun v H1 ⟨ι1, S1, x, g1, rs1, rx, q1⟩ => by
  cases hi : intOf x with
  | none => rw [hi] at q1; exact q1.elim
  | some i => rw [hi] at q1; exact ⟨i, intOf_ok rx hi, q1 _ H1 ι1 Gr.refl rs1 rfl⟩⟩⟩
def rSlD (K : PySem.W.Frag) (x : V) (l u : Option Int) (H : Hp) (Q : VK) : Prop := (rSlL K x l u H Q ∨ rSlA K x l u H Q) ∨ rSlS x l u H Q
theorem cut_ok {K : PySem.W.Frag} {ι : List Addr} {H : Hp} {ds : List D} {vs : List V} {l u : Option Int} (r : RDs K H ι ds vs) : RDs K H ι (cutD ds l u) (cutV vs l u) := by
  unfold cutD cutV
  rw [← r.length]
  exact (r.drop _).take _
theorem cut_all {α : Type} {xs : List α} {l u : Option Int} (h1 : HT.sIx xs.length 0 l = 0) (h2 : HT.sIx xs.length xs.length u = xs.length) : (xs.drop (HT.sIx xs.length 0 l)).take (HT.sIx xs.length xs.length u - HT.sIx xs.length 0 l) = xs := by
  rw [h1, h2]
  simp
theorem cut_id {K : PySem.W.Frag} {ι : List Addr} {H : Hp} {ds : List D} {vs : List V} {l u : Option Int} (r : RDs K H ι ds vs) (z : HT.sIx vs.length 0 l = 0 ∧ HT.sIx vs.length vs.length u = vs.length) : cutD ds l u = ds := by
  rw [← r.length] at z
  exact cut_all z.1 z.2
theorem de_sl {lo hi : Option Expr} {fl fh : PO'} {p2 : Pos} (ha : PE X a (tOf X.K W fa)) (hl : PO2 X W lo fl) (hh : PO2 X W hi fh) : PE X (.Subscript a (.Slice lo hi none p2) pos) (tOf X.K W (eSl fa fl fh)) := by
  obtain ⟨tl, h1, i1⟩ := hl.ok
  obtain ⟨th, h2, i2⟩ := hh.ok
  refine PE.imp (pe_slice (r := rSlD X.K) ((sl_list.or sl_tupA).or sl_str) ha h1 h2) fun σ H Q ⟨ι, S, δ, rs, ro, q⟩ => ⟨ι, S, δ, rs, ro, ?_⟩
  refine Post.mono (Post.bind (rel := RD X.K) q) fun v H1 ⟨ι1, S1, x, g1, rs1, rx, q1⟩ => i1 _ _ _ ⟨ι1, S1, δ, rs1, ro.mono g1, ?_⟩
  refine Post.mono (Post.bind (rel := fun _ _ (a b : Option Int) => a = b) q1) fun l H2 ⟨ι2, S2, l', g2, rs2, el, q2⟩ => i2 _ _ _ ⟨ι2, S2, δ, rs2, (ro.mono g1).mono g2, ?_⟩
  refine Post.mono (Post.bind (rel := fun _ _ (a b : Option Int) => a = b) q2) fun u H3 ⟨ι3, S3, u', g3, rs3, eu, q3⟩ => ?_
  subst el eu
  have q4 := q3.ofO
  have rx3 := (rx.mono g2).mono g3
  unfold slD at q4
  split at q4
  · split at q4
    · exact .inr ⟨_, rx3.str, by assumption, q4.val rs3 RD.mstr⟩
    · exact q4.elim
  · obtain ⟨p, vs, rfl, t1, l1⟩ := rx3.tup
    refine .inl (.inr ⟨p, vs, rfl, t1, fun z => ?_, fun z p' hp => q4.newT rs3 (cut_ok l1) hp⟩)
    rw [cut_id l1 z] at q4
    exact q4.val rs3 rx3
  · split at q4
    · rename_i ds hs
      obtain ⟨p, vs, rfl, t1, l1⟩ := itemsD_ok rs3 rx3 hs
      exact .inl (.inl ⟨p, vs, rfl, t1, fun p' hp => q4.newL rs3 (cut_ok l1) hp⟩)
    · exact q4.elim
end
end DL
set_option Elab.async false
set_option linter.all false
set_option maxRecDepth 100000
/-! DIter: what a loop or a comprehension goes through; its targets; comprehensions. -/
namespace DL
open PySem L2

/-! ### what is gone through: the items, and the lists that must stand still meanwhile -/
abbrev Gd := List (Nat × List D)
abbrev IT := List D × Gd
def gOk : Gd → SS → Prop
  | [], _ => True
  | (k, ds) :: r, S => S[k]? = some (.lst ds) ∧ gOk r S
/-- the iterator J yields the items -/
def JOk (K : PySem.W.Frag) (H0 : Hp) (ι0 : List Addr) (it : IT) (J : It) : Prop :=
  ∀ (i : Nat) (H : Hp) (ι : List Addr) (S : SS), Gr K H0 ι0 H ι → RelS K H ι S → gOk it.2 S →
    (∀ d, it.1[i]? = some d → J.go i H ∧ ∀ x H', J.yld i H x H' → Gr K H ι H' ι ∧ RelS K H' ι S ∧ RD K H' ι d x) ∧ (it.1.length ≤ i → J.stop i H)
abbrev PIt := Sl → SS → R IT
def iOf (K : PySem.W.Frag) (W : WX) (f : PIt) : TI := fun σ H Rr => ∃ ι S δ, RelS K H ι S ∧ ROs K H ι δ σ ∧ Post (JOk K) K W ι H σ (f δ S) Rr
theorem PI.imp {X : Cx} {tg e : Expr} {t t' : TI} (h : PI X tg e t) (i : ∀ σ H Q, t' σ H Q → t σ H Q) : PI X tg e t' := ⟨fun pins s σ H Q I q => h.run pins s σ H Q I (i _ _ _ q)⟩
def iBad : PIt := fun _ _ => .bad
theorem pi_bad {X : Cx} {W : WX} {tg e : Expr} : PI X tg e (iOf X.K W iBad) := ⟨fun _ _ _ _ _ _ ⟨_, _, _, _, _, h⟩ => h.elim⟩
/-- a value's items -/
def iterD (d : D) (S : SS) : Option IT := match d with
  | .tup ds => some (ds, [])
  | .rls ds => some (ds, [])
  | .ref k => match S[k]? with
    | some (.lst ds) => some (ds, [(k, ds)])
    | _ => none
  | .str x => some (x.cps.toList.map fun c => D.str ⟨#[c]⟩, [])
  | _ => none
def ofI (r : Option IT) (S : SS) : R IT := match r with
  | some x => .ok x S
  | none => .bad
def iVal (a : PEx) : PIt := fun δ S => (a δ S).bind fun x S1 => ofI (iterD x S1) S1
def rngItems (lo : Int) (n : Nat) (c : Int) : List D := (List.range n).map fun i => D.int (lo + (i : Nat) * c)
def small (i : Int) : Prop := -(2 ^ 62) ≤ i ∧ i < 2 ^ 62
instance (i : Int) : Decidable (small i) := by unfold small; infer_instance
/-- by the arguments -/
def iOn (g : List D → SS → Option IT) (a : PAs) : PIt := fun δ S => (a δ S).bind fun xs S1 => ofI (g xs S1) S1
def rng1D : List D → SS → Option IT
  | [.int j], _ => if small j then some (rngItems 0 j.toNat 1, []) else none
  | _, _ => none
def rng2D : List D → SS → Option IT
  | [.int i, .int j], _ => if small i ∧ small j then some (rngItems i (j - i).toNat 1, []) else none
  | _, _ => none
def rng3D : List D → SS → Option IT
  | [.int i, .int j, .int c], _ => if c ≠ 0 ∧ c.natAbs < 1073741824 ∧ Builtin.Range.small i j c = true ∧ 0 ≤ Builtin.Range.rangeSize i j c then some (rngItems i (Builtin.Range.rangeSize i j c).toNat c, []) else none
  | _, _ => none
def enumItems (ds : List D) : List D := ds.zipIdx.map fun p => D.tup [.int (p.2 : Nat), p.1]
def enuD : List D → SS → Option IT
  | [.ref k], S => match S[k]? with
    | some (.lst ds) => some (enumItems ds, [(k, ds)])
    | _ => none
  | [.tup ds], _ => some (enumItems ds, [])
  | _, _ => none
def zipItems (ds es : List D) : List D := (ds.zip es).map fun p => D.tup [p.1, p.2]
def zpD : List D → SS → Option IT
  | [.ref k, .ref l], S => match S[k]?, S[l]? with
    | some (.lst ds), some (.lst es) => some (zipItems ds es, [(k, ds), (l, es)])
    | _, _ => none
  | [.tup ds, .tup es], _ => some (zipItems ds es, [])
  | _, _ => none

section
variable {X : Cx} {W : WX} {tg a b c : Expr} {fa : PEx} {f : PAs} {pos p : Pos}
theorem jok_seq {K : PySem.W.Frag} {H0 : Hp} {ι0 : List Addr} {a : Addr} {k : Nat} {ds : List D} (hk : ι0[k]? = some a) : JOk K H0 ι0 (ds, [(k, ds)]) (Itl K a) := by
  intro i H ι S g rs gk
  obtain ⟨e, _⟩ := gk
  obtain ⟨vs, h1, h2⟩ := rs.at k _ a e (prefix_get g.pre hk)
  refine ⟨fun d hd => ?_, fun hl => ⟨vs, SqL.of h1, by rw [← h2.length]; exact hl⟩⟩
  obtain ⟨v, e1, r1⟩ := h2.get hd
  refine ⟨⟨vs, v, SqL.of h1, e1⟩, fun x H' y => ?_⟩
  obtain ⟨e2, y2⟩ := y
  subst e2
  have e3 := y2 vs (SqL.of h1)
  rw [e1] at e3
  cases e3
  exact ⟨Gr.refl, rs, r1⟩
theorem jok_rls {K : PySem.W.Frag} {H0 : Hp} {ι0 : List Addr} {a : Addr} {ds : List D} {vs : List V} (h : FrzL K H0 a vs) (r : RDs K H0 ι0 ds vs) : JOk K H0 ι0 (ds, []) (Itl K a) := by
  intro i H ι S g rs gk
  have h1 := (g.frz a vs h).sq
  have h2 := r.mono g
  refine ⟨fun d hd => ?_, fun hl => ⟨vs, h1, by rw [← h2.length]; exact hl⟩⟩
  obtain ⟨v, e1, r1⟩ := h2.get hd
  refine ⟨⟨vs, v, h1, e1⟩, fun x H' y => ?_⟩
  obtain ⟨e2, y2⟩ := y
  subst e2
  have e3 := y2 vs h1
  rw [e1] at e3
  cases e3
  exact ⟨Gr.refl, rs, r1⟩
theorem jok_tup {K : PySem.W.Frag} {H0 : Hp} {ι0 : List Addr} {a : Addr} {ds : List D} {vs : List V} (h : SqT K H0 a vs) (r : RDs K H0 ι0 ds vs) : JOk K H0 ι0 (ds, []) (Itt K a) := by
  intro i H ι S g rs gk
  have h1 := g.tup a vs h
  have h2 := r.mono g
  refine ⟨fun d hd => ?_, fun hl => ⟨vs, h1, by rw [← h2.length]; exact hl⟩⟩
  obtain ⟨v, e1, r1⟩ := h2.get hd
  refine ⟨⟨vs, v, h1, e1⟩, fun x H' y => ?_⟩
  obtain ⟨e2, y2⟩ := y
  subst e2
  have e3 := y2 vs h1
  rw [e1] at e3
  cases e3
  exact ⟨Gr.refl, rs, r1⟩
theorem jok_str {K : PySem.W.Frag} {H0 : Hp} {ι0 : List Addr} {z : Str} : JOk K H0 ι0 (z.cps.toList.map fun c => D.str ⟨#[c]⟩, []) (Its z) := by
  intro i H ι S g rs gk
  refine ⟨fun d hd => ?_, fun hl => by show z.cps.size ≤ i; simpa using hl⟩
  rw [List.getElem?_map, Option.map_eq_some_iff] at hd
  obtain ⟨c, e, rfl⟩ := hd
  have e' : z.cps[i]? = some c := by simpa using e
  refine ⟨(Array.getElem?_eq_some_iff.mp e').1, fun x H' y => ?_⟩
  obtain ⟨e2, c', h1, rfl⟩ := y
  subst e2
  rw [e'] at h1
  cases h1
  exact ⟨Gr.refl, rs, RD.mstr⟩
theorem jok_rng {K : PySem.W.Frag} {H0 : Hp} {ι0 : List Addr} {lo : Int} {n : Nat} : JOk K H0 ι0 (rngItems lo n 1, []) (Itr lo n) := by
  intro i H ι S g rs gk
  refine ⟨fun d hd => ?_, fun hl => by show n ≤ i; simpa [rngItems] using hl⟩
  have hd : ((List.range n).map fun i => D.int (lo + (i : Nat) * 1))[i]? = some d := hd
  rw [List.getElem?_map, Option.map_eq_some_iff] at hd
  obtain ⟨j, e, rfl⟩ := hd
  obtain ⟨h1, h2⟩ := List.getElem?_eq_some_iff.mp e
  simp at h1 h2
  subst h2
  refine ⟨h1, fun x H' y => ?_⟩
  obtain ⟨e2, rfl⟩ := y
  subst e2
  rw [Int.mul_one]
  exact ⟨Gr.refl, rs, RD.mint⟩
theorem jok_rngC {K : PySem.W.Frag} {H0 : Hp} {ι0 : List Addr} {lo c : Int} {n : Nat} : JOk K H0 ι0 (rngItems lo n c, []) (Itc lo c n) := by
  intro i H ι S g rs gk
  refine ⟨fun d hd => ?_, fun hl => by show n ≤ i; simpa [rngItems] using hl⟩
  have hd : ((List.range n).map fun i => D.int (lo + (i : Nat) * c))[i]? = some d := hd
  rw [List.getElem?_map, Option.map_eq_some_iff] at hd
  obtain ⟨j, e, rfl⟩ := hd
  obtain ⟨h1, h2⟩ := List.getElem?_eq_some_iff.mp e
  simp at h1 h2
  subst h2
  refine ⟨h1, fun x H' y => ?_⟩
  obtain ⟨e2, rfl⟩ := y
  subst e2
  exact ⟨Gr.refl, rs, RD.mint⟩
theorem jok_enum {K : PySem.W.Frag} {H0 : Hp} {ι0 : List Addr} {a : Addr} {k : Nat} {ds : List D} (hk : ι0[k]? = some a) : JOk K H0 ι0 (enumItems ds, [(k, ds)]) (Ite K a) := by
  intro i H ι S g rs gk
  obtain ⟨e, _⟩ := gk
  obtain ⟨vs, h1, h2⟩ := rs.at k _ a e (prefix_get g.pre hk)
  refine ⟨fun d hd => ?_, fun hl => ⟨vs, SqL.of h1, by rw [← h2.length]; simpa [enumItems] using hl⟩⟩
  have hd : (ds.zipIdx.map fun p => D.tup [.int (p.2 : Nat), p.1])[i]? = some d := hd
  rw [List.getElem?_map, Option.map_eq_some_iff] at hd
  obtain ⟨⟨d0, j⟩, e0, rfl⟩ := hd
  rw [List.getElem?_zipIdx, Option.map_eq_some_iff] at e0
  obtain ⟨d1, e1, e2⟩ := e0
  cases e2
  obtain ⟨v, e3, r1⟩ := h2.get e1
  refine ⟨⟨vs, v, SqL.of h1, e3⟩, fun x H' y => ?_⟩
  obtain ⟨T, x', rfl, hT, rfl, y2⟩ := y
  have e4 := y2 vs (SqL.of h1)
  rw [e3] at e4
  cases e4
  have gg : Gr K H ι (upd H T (.tup [.int (i : Nat), v])) ι := Gr.new hT
  refine ⟨gg, rs.new hT, ?_⟩
  unfold RD
  refine ⟨T, _, rfl, SqT.of upd_same, RDs.cons ?_ (RDs.cons (r1.mono gg) RDs.nil)⟩
  simp only [Nat.zero_add]
  exact RD.mint
theorem jok_enumT {K : PySem.W.Frag} {H0 : Hp} {ι0 : List Addr} {a : Addr} {ds : List D} {vs : List V} (h : SqT K H0 a vs) (r : RDs K H0 ι0 ds vs) : JOk K H0 ι0 (enumItems ds, []) (IteT K a) := by
  intro i H ι S g rs gk
  have h1 := g.tup a vs h
  have h2 := r.mono g
  refine ⟨fun d hd => ?_, fun hl => ⟨vs, h1, by rw [← h2.length]; simpa [enumItems] using hl⟩⟩
  have hd : (ds.zipIdx.map fun p => D.tup [.int (p.2 : Nat), p.1])[i]? = some d := hd
  rw [List.getElem?_map, Option.map_eq_some_iff] at hd
  obtain ⟨⟨d0, j⟩, e0, rfl⟩ := hd
  rw [List.getElem?_zipIdx, Option.map_eq_some_iff] at e0
  obtain ⟨d1, e1, e2⟩ := e0
  cases e2
  obtain ⟨v, e3, r1⟩ := h2.get e1
  refine ⟨⟨vs, v, h1, e3⟩, fun x H' y => ?_⟩
  obtain ⟨T, x', rfl, hT, rfl, y2⟩ := y
  have e4 := y2 vs h1
  rw [e3] at e4
  cases e4
  have gg : Gr K H ι (upd H T (.tup [.int (i : Nat), v])) ι := Gr.new hT
  refine ⟨gg, rs.new hT, ?_⟩
  unfold RD
  refine ⟨T, _, rfl, SqT.of upd_same, RDs.cons ?_ (RDs.cons (r1.mono gg) RDs.nil)⟩
  simp only [Nat.zero_add]
  exact RD.mint
theorem jok_zip {K : PySem.W.Frag} {H0 : Hp} {ι0 : List Addr} {a b : Addr} {k l : Nat} {ds es : List D} (hk : ι0[k]? = some a) (hl : ι0[l]? = some b) : JOk K H0 ι0 (zipItems ds es, [(k, ds), (l, es)]) (Itz K a b) := by
  intro i H ι S g rs gk
  obtain ⟨ek, el, _⟩ := gk
  obtain ⟨vs, h1, h2⟩ := rs.at k _ a ek (prefix_get g.pre hk)
  obtain ⟨us, h3, h4⟩ := rs.at l _ b el (prefix_get g.pre hl)
  refine ⟨fun d hd => ?_, fun hlen => ⟨vs, us, SqL.of h1, SqL.of h3, ?_⟩⟩
  · have hd : ((ds.zip es).map fun p => D.tup [p.1, p.2])[i]? = some d := hd
    rw [List.getElem?_map, Option.map_eq_some_iff] at hd
    obtain ⟨⟨d0, d1⟩, e0, rfl⟩ := hd
    rw [List.getElem?_zip_eq_some] at e0
    obtain ⟨v, e3, r1⟩ := h2.get e0.1
    obtain ⟨u, e5, r2⟩ := h4.get e0.2
    refine ⟨⟨vs, us, v, u, SqL.of h1, SqL.of h3, e3, e5⟩, fun x H' y => ?_⟩
    obtain ⟨T, x', y', rfl, hT, rfl, y2, y3⟩ := y
    have e6 := y2 vs (SqL.of h1)
    rw [e3] at e6
    cases e6
    have e7 := y3 us (SqL.of h3)
    rw [e5] at e7
    cases e7
    have gg : Gr K H ι (upd H T (.tup [v, u])) ι := Gr.new hT
    refine ⟨gg, rs.new hT, ?_⟩
    unfold RD
    exact ⟨T, _, rfl, SqT.of upd_same, RDs.cons (r1.mono gg) (RDs.cons (r2.mono gg) RDs.nil)⟩
  · rw [← h2.length, ← h4.length]
    simp [zipItems] at hlen
    omega
theorem jok_zipT {K : PySem.W.Frag} {H0 : Hp} {ι0 : List Addr} {a b : Addr} {ds es : List D} {vs us : List V} (h1 : SqT K H0 a vs) (h2 : RDs K H0 ι0 ds vs) (h3 : SqT K H0 b us) (h4 : RDs K H0 ι0 es us) : JOk K H0 ι0 (zipItems ds es, []) (RZ.ItzT K a b) := by
  intro i H ι S g rs gk
  have h1 := g.tup a vs h1
  have h3 := g.tup b us h3
  have h2 := h2.mono g
  have h4 := h4.mono g
  refine ⟨fun d hd => ?_, fun hlen => ⟨vs, us, h1, h3, ?_⟩⟩
  · have hd : ((ds.zip es).map fun p => D.tup [p.1, p.2])[i]? = some d := hd
    rw [List.getElem?_map, Option.map_eq_some_iff] at hd
    obtain ⟨⟨d0, d1⟩, e0, rfl⟩ := hd
    rw [List.getElem?_zip_eq_some] at e0
    obtain ⟨v, e3, r1⟩ := h2.get e0.1
    obtain ⟨u, e5, r2⟩ := h4.get e0.2
    refine ⟨⟨vs, us, v, u, h1, h3, e3, e5⟩, fun x H' y => ?_⟩
    obtain ⟨T, x', y', rfl, hT, rfl, y2, y3⟩ := y
    have e6 := y2 vs h1
    rw [e3] at e6
    cases e6
    have e7 := y3 us h3
    rw [e5] at e7
    cases e7
    have gg : Gr K H ι (upd H T (.tup [v, u])) ι := Gr.new hT
    refine ⟨gg, rs.new hT, ?_⟩
    unfold RD
    exact ⟨T, _, rfl, SqT.of upd_same, RDs.cons (r1.mono gg) (RDs.cons (r2.mono gg) RDs.nil)⟩
  · rw [← h2.length, ← h4.length]
    simp [zipItems] at hlen
    omega
/-- a value that is a list, a tuple or a text -/
theorem di_val (ha : PE X a (tOf X.K W fa)) : PI X tg a (iOf X.K W (iVal fa)) := by
  have tl : PI X tg a (iList X.K (tOf X.K W fa)) := pi_list ha
  refine ⟨fun pins s σ H Rr I ⟨ι, S, δ, rs, ro, q⟩ => ?_⟩
  -- which kind it is hangs on the store alone
  cases hr : fa δ S with
  | bad =>
    have q : Post (JOk X.K) X.K W ι H σ ((fa δ S).bind fun x S1 => ofI (iterD x S1) S1) Rr := q
    rw [hr] at q
    exact q.elim
  | exc C fs S1 =>
    have q : Post (JOk X.K) X.K W ι H σ ((fa δ S).bind fun x S1 => ofI (iterD x S1) S1) Rr := q
    rw [hr] at q
    exact tl.run pins s σ H Rr I ⟨ι, S, δ, rs, ro, by rw [hr]; exact q⟩
  | ok d S1 =>
    have q : Post (JOk X.K) X.K W ι H σ ((fa δ S).bind fun x S1 => ofI (iterD x S1) S1) Rr := q
    rw [hr, R.bind_ok] at q
    cases d with
    | tup ds =>
      refine (pi_tup ha).run pins s σ H Rr I ⟨ι, S, δ, rs, ro, ?_⟩
      rw [hr]
      intro v H1 ι1 g1 rs1 rd
      obtain ⟨a', vs, rfl, h1, h2⟩ := rd.tup
      exact ⟨a', rfl, ⟨vs, h1⟩, q _ H1 ι1 g1 rs1 (jok_tup h1 h2)⟩
    | rls ds =>
      refine tl.run pins s σ H Rr I ⟨ι, S, δ, rs, ro, ?_⟩
      rw [hr]
      intro v H1 ι1 g1 rs1 rd
      obtain ⟨a', vs, rfl, h1, h2⟩ := rd.rls
      exact ⟨a', rfl, ⟨vs, h1.sq⟩, q _ H1 ι1 g1 rs1 (jok_rls h1 h2)⟩
    | ref k =>
      refine tl.run pins s σ H Rr I ⟨ι, S, δ, rs, ro, ?_⟩
      rw [hr]
      intro v H1 ι1 g1 rs1 rd
      have q : Post (JOk X.K) X.K W ι H σ (ofI (match S1[k]? with | some (.lst ds) => some (ds, [(k, ds)]) | _ => none) S1) Rr := q
      split at q
      · rename_i ds e
        obtain ⟨a', vs, rfl, h0, h1, h2⟩ := rs1.lst e rd
        exact ⟨a', rfl, ⟨vs, SqL.of h1⟩, q _ H1 ι1 g1 rs1 (jok_seq h0)⟩
      · exact q.elim
    | str z =>
      refine (pi_str ha).run pins s σ H Rr I ⟨ι, S, δ, rs, ro, ?_⟩
      rw [hr]
      intro v H1 ι1 g1 rs1 rd
      exact ⟨z, rd.str, q _ H1 ι1 g1 rs1 jok_str⟩
    | _ => exact q.elim
theorem i_on {g : List D → SS → Option IT} {σ : St} {H : Hp} {Rr : It → Hp → Prop} (h : iOf X.K W (iOn g f) σ H Rr) : tOfA X.K W f σ H fun vs H1 => ∃ ι S xs it, RelS X.K H1 ι S ∧ RDs X.K H1 ι xs vs ∧ g xs S = some it ∧ ∀ J, JOk X.K H1 ι it J → Rr J H1 := by
  obtain ⟨ι, S, δ, rs, ro, q⟩ := h
  refine ⟨ι, S, δ, rs, ro, Post.mono (Post.bind (rel := RDs X.K) q) fun vs H1 ⟨ι1, S1, xs, g1, rs1, rd, q1⟩ => ?_⟩
  cases hg : g xs S1 with
  | none => rw [hg] at q1; exact q1.elim
  | some it => rw [hg] at q1; exact ⟨ι1, S1, xs, it, rs1, rd, hg, fun J hJ => q1 J H1 ι1 Gr.refl rs1 hJ⟩
theorem tOfA.mono {σ : St} {H : Hp} {Q Q' : List V → Hp → Prop} (h : tOfA X.K W f σ H Q) (i : ∀ vs H', Q vs H' → Q' vs H') : tOfA X.K W f σ H Q' :=
  let ⟨ι, S, δ, rs, ro, q⟩ := h
  ⟨ι, S, δ, rs, ro, q.mono i⟩
theorem di_rng1 (hg : Gl X "range") (hm : X.mg "range" = none) (ha : PA X [a] (tOfA X.K W f)) (hs : starEach [a] X.env = [(false, eval a X.env)]) : PI X tg (.Call (.Name "range" p) [a] [] pos) (iOf X.K W (iOn rng1D f)) :=
  PI.imp (pi_range1 hg hm ha hs) fun σ H Rr h => (i_on h).mono fun vs H1 ⟨ι1, S1, xs, it, rs1, rd, e, q⟩ => by
    unfold rng1D at e
    split at e
    · split at e
      · rename_i hj
        cases e
        obtain ⟨v, rfl, rj⟩ := rds1 rd
        rw [rj.int]
        exact ⟨_, rfl, hj.1, hj.2, q _ jok_rng⟩
      · cases e
    · cases e
theorem di_rng2 (hg : Gl X "range") (hm : X.mg "range" = none) (ha : PA X [a, b] (tOfA X.K W f)) (hs : starEach [a, b] X.env = [(false, eval a X.env), (false, eval b X.env)]) (hs2 : starEach [b] X.env = [(false, eval b X.env)]) : PI X tg (.Call (.Name "range" p) [a, b] [] pos) (iOf X.K W (iOn rng2D f)) :=
  PI.imp (pi_range2 hg hm ha hs hs2) fun σ H Rr h => (i_on h).mono fun vs H1 ⟨ι1, S1, xs, it, rs1, rd, e, q⟩ => by
    unfold rng2D at e
    split at e
    · split at e
      · rename_i hj
        cases e
        obtain ⟨v, u, rfl, ri, rj⟩ := rds2 rd
        rw [ri.int, rj.int]
        exact ⟨_, _, rfl, ⟨hj.1.1, hj.1.2, hj.2.1, hj.2.2⟩, q _ jok_rng⟩
      · cases e
    · cases e
theorem rds3 {K : PySem.W.Frag} {ι : List Addr} {H : Hp} {d e g : D} {vs : List V} (r : RDs K H ι [d, e, g] vs) : ∃ v u w, vs = [v, u, w] ∧ RD K H ι d v ∧ RD K H ι e u ∧ RD K H ι g w := by
  unfold RDs at r
  obtain ⟨v, r', rfl, r1, r2⟩ := r
  obtain ⟨u, w, rfl, r3, r4⟩ := rds2 r2
  exact ⟨v, u, w, rfl, r1, r3, r4⟩
theorem di_rng3 (hg : Gl X "range") (hm : X.mg "range" = none) (ha : PA X [a, b, c] (tOfA X.K W f)) (hs : starEach [a, b, c] X.env = (false, eval a X.env) :: starEach [b, c] X.env) (hs2 : (backTo pos (starEach [b, c] X.env)).any (·.1) = false) : PI X tg (.Call (.Name "range" p) [a, b, c] [] pos) (iOf X.K W (iOn rng3D f)) :=
  PI.imp (pi_range3 hg hm ha hs hs2) fun σ H Rr h => (i_on h).mono fun vs H1 ⟨ι1, S1, xs, it, rs1, rd, e, q⟩ => by
    unfold rng3D at e
    split at e
    · split at e
      · rename_i hj
        cases e
        obtain ⟨v, u, w, rfl, ri, rj, rc⟩ := rds3 rd
        rw [ri.int, rj.int, rc.int]
        exact ⟨_, _, _, _, rfl, ⟨hj.1, hj.2.1, hj.2.2.1, (Int.toNat_of_nonneg hj.2.2.2).symm⟩, q _ jok_rngC⟩
      · cases e
    · cases e
theorem di_enum {elts : List Expr} {kk : Nat} {tpos : Pos} (hg : Gl X "enumerate") (hm : X.mg "enumerate" = none) (ha : PA X [a] (tOfA X.K W f)) (hs : starEach [a] X.env = [(false, eval a X.env)]) : PI X (.Tuple elts kk tpos) (.Call (.Name "enumerate" p) [a] [] pos) (iOf X.K W (iOn enuD f)) :=
  PI.imp (pi_enumT hg hm ha hs) fun σ H Rr h => (i_on h).mono fun vs H1 ⟨ι1, S1, xs, it, rs1, rd, e, q⟩ => by
    unfold enuD at e
    split at e
    · split at e
      · rename_i ds hk
        cases e
        obtain ⟨v, rfl, rj⟩ := rds1 rd
        obtain ⟨a', us, rfl, h0, h1, h2⟩ := rs1.lst hk rj
        exact ⟨a', rfl, .inl ⟨us, SqL.of h1, q _ (jok_enum h0)⟩⟩
      · cases e
    · cases e
      obtain ⟨v, rfl, rj⟩ := rds1 rd
      obtain ⟨a', us, rfl, t1, l1⟩ := rj.tup
      exact ⟨a', rfl, .inr ⟨us, t1, q _ (jok_enumT t1 l1)⟩⟩
    · cases e
theorem di_zip {elts : List Expr} {kk : Nat} {tpos : Pos} (hg : Gl X "zip") (hm : X.mg "zip" = none) (ha : PA X [a, b] (tOfA X.K W f)) (hs : starEach [a, b] X.env = (false, eval a X.env) :: starEach [b] X.env) (hs2 : (backTo pos (starEach [b] X.env)).any (·.1) = false) : PI X (.Tuple elts kk tpos) (.Call (.Name "zip" p) [a, b] [] pos) (iOf X.K W (iOn zpD f)) :=
  PI.imp (RZ.pi_zipA hg hm ha hs hs2) fun σ H Rr h => (i_on h).mono fun vs H1 ⟨ι1, S1, xs, it, rs1, rd, e, q⟩ => by
    unfold zpD at e
    split at e
    · split at e
      · rename_i ds es hk hl
        cases e
        obtain ⟨v, u, rfl, ri, rj⟩ := rds2 rd
        obtain ⟨a', us, rfl, h0, h1, h2⟩ := rs1.lst hk ri
        obtain ⟨b', us', rfl, h0', h1', h2'⟩ := rs1.lst hl rj
        exact ⟨a', b', us, us', rfl, .inl ⟨SqL.of h1, SqL.of h1', q _ (jok_zip h0 h0')⟩⟩
      · cases e
    · cases e
      obtain ⟨v, u, rfl, ri, rj⟩ := rds2 rd
      obtain ⟨a', us, rfl, t1, l1⟩ := ri.tup
      obtain ⟨b', us', rfl, t2, l2⟩ := rj.tup
      exact ⟨a', b', us, us', rfl, .inr ⟨t1, t2, q _ (jok_zipT t1 l1 t2 l2)⟩⟩
    · cases e
end
end DL
set_option Elab.async false
set_option linter.all false
set_option maxRecDepth 100000
/-! DComp: targets; list comprehensions. -/
namespace DL
open PySem L2
open Classical

inductive CT where
  | one (i : Nat)
  | many (is : List Nat)
def CT.slots : CT → List Nat
  | .one i => [i]
  | .many is => is
def setsD : List Nat → List D → Sl → Sl
  | i :: is, d :: ds, δ => setsD is ds (δ.set i (some d))
  | _, _, δ => δ
def bindC : CT → D → Sl → Option Sl
  | .one i, d, δ => some (δ.set i (some d))
  | .many is, .tup ds, δ => if ds.length = is.length then some (setsD is ds δ) else none
  | _, _, _ => none
def gNs : List Nat → TGs
  | [] => gNil
  | i :: is => gCons (gName i) (gNs is)
def gC (K : PySem.W.Frag) : CT → TG
  | .one i => gName i
  | .many is => gTup K is.length (gNs is)
theorem wipe_key {i : Nat} {v : Option V} : ∀ (vs : List Nat) (σ : St), i ∉ vs → wipe (σ.set i v) vs = (wipe σ vs).set i v := by
  intro vs
  induction vs with
  | nil => intro σ _; rfl
  | cons j vs ih =>
    intro σ h
    simp only [List.mem_cons, not_or] at h
    show (wipe (σ.set i v) vs).set j none = ((wipe σ vs).set j none).set i v
    rw [ih σ h.2, List.set_comm _ _ h.1]
theorem wipe_set {σ : St} {i : Nat} {v : Option V} : ∀ {vs : List Nat}, i ∈ vs → wipe (σ.set i v) vs = wipe σ vs := by
  intro vs
  induction vs with
  | nil => intro h; cases h
  | cons j vs ih =>
    intro h
    show (wipe (σ.set i v) vs).set j none = (wipe σ vs).set j none
    by_cases hv : i ∈ vs
    · rw [ih hv]
    · rcases List.mem_cons.mp h with e | h
      · subst e
        rw [wipe_key vs σ hv, List.set_set]
      · exact absurd h hv
theorem wipe_idem (σ : St) : ∀ vs : List Nat, wipe (wipe σ vs) vs = wipe σ vs
  | [] => rfl
  | v :: vs => by
    show (wipe ((wipe σ vs).set v none) vs).set v none = (wipe σ vs).set v none
    by_cases hv : v ∈ vs
    · rw [wipe_set hv, wipe_idem σ vs]
    · rw [wipe_key vs _ hv, List.set_set, wipe_idem σ vs]
section
variable {K : PySem.W.Frag} {H : Hp} {ι : List Addr}
theorem gNs_ok {Q : St → Hp → Prop} : ∀ (is : List Nat) {ds : List D} {vs : List V} {δ : Sl} {σ : St}, RDs K H ι ds vs → ds.length = is.length → ROs K H ι δ σ →
    (∀ σ', ROs K H ι (setsD is ds δ) σ' → (∀ ws : List Nat, (∀ i ∈ is, i ∈ ws) → wipe σ' ws = wipe σ ws) → Q σ' H) → gNs is vs σ H Q
  | [], [], vs, δ, σ, r, _, ro, q => by
    unfold RDs at r
    subst r
    exact ⟨rfl, q σ ro fun _ _ => rfl⟩
  | i :: is, d :: ds, _, δ, σ, r, hl, ro, q => by
    unfold RDs at r
    obtain ⟨v, r', rfl, r1, r2⟩ := r
    refine ⟨v, r', rfl, ?_⟩
    refine gNs_ok is r2 (by simpa using hl) (ro.set r1) fun σ' ro' hw => q σ' ro' fun ws hws => ?_
    rw [hw ws fun j hj => hws j (List.mem_cons_of_mem _ hj)]
    exact wipe_set (hws i List.mem_cons_self)
  | [], d :: ds, _, _, _, _, hl, _, _ => by simp at hl
  | i :: is, [], _, _, _, _, hl, _, _ => by simp at hl
theorem gC_ok {ct : CT} {d : D} {v : V} {δ δ' : Sl} {σ : St} {Q : St → Hp → Prop} (h : bindC ct d δ = some δ') (rd : RD K H ι d v) (ro : ROs K H ι δ σ)
    (q : ∀ σ', ROs K H ι δ' σ' → (∀ ws : List Nat, (∀ i ∈ ct.slots, i ∈ ws) → wipe σ' ws = wipe σ ws) → Q σ' H) : gC K ct v σ H Q := by
  cases ct with
  | one i =>
    cases h
    exact q _ (ro.set rd) fun ws hws => wipe_set (hws i (by simp [CT.slots]))
  | many is =>
    cases d with
    | tup ds =>
      simp only [bindC] at h
      split at h
      · rename_i hl
        cases h
        obtain ⟨a, vs, rfl, h1, h2⟩ := rd.tup
        exact ⟨a, vs, rfl, h1, by rw [← h2.length]; exact hl, gNs_ok is h2 hl ro q⟩
      · cases h
    | _ => cases h
end
def wipeD (δ : Sl) : List Nat → Sl
  | [] => δ
  | v :: vs => (wipeD δ vs).set v none
theorem ROs.wipe {K : PySem.W.Frag} {H : Hp} {ι : List Addr} {δ : Sl} {σ : St} (r : ROs K H ι δ σ) : ∀ vs : List Nat, ROs K H ι (wipeD δ vs) (L2.wipe σ vs)
  | [] => r
  | v :: vs => (ROs.wipe r vs).none

def R.nox {α : Type} : R α → R α
  | .exc _ _ _ => .bad
  | r => r
@[simp] theorem R.nox_ok {α : Type} {x : α} {S : SS} : (R.ok x S).nox = .ok x S := rfl
theorem R.bind_assoc {α β γ : Type} {r : R α} {f : α → SS → R β} {g : β → SS → R γ} : (r.bind f).bind g = r.bind fun x S => (f x S).bind g := by
  cases r <;> rfl
noncomputable def lcGo (gd : Gd) (ct : CT) (t : PTs') (el : PEx) (δ : Sl) (k : Nat) : List D → SS → R Unit
  | [], S => if gOk gd S then .ok () S else .bad
  | d :: r, S => if gOk gd S then (match bindC ct d δ with
    | none => .bad
    | some δ1 => (t δ1 S).nox.bind fun c S1 => if c = true then (el δ1 S1).nox.bind fun y S2 => (match S2[k]? with
        | some (.lst acc) => if acc.length < sizeLine then lcGo gd ct t el δ k r (S2.set k (.lst (acc ++ [y]))) else .bad
        | _ => .bad) else lcGo gd ct t el δ k r S1) else .bad
noncomputable def eLc (it : PIt) (ct : CT) (vs : List Nat) (t : PTs') (el : PEx) : PEx := fun δ S => (it δ S).bind fun x S1 =>
  (lcGo x.2 ct t el (wipeD δ vs) S1.length x.1 (S1 ++ [.lst []])).bind fun _ S2 => .ok (.ref S1.length) S2
abbrev W0 : WX := fun _ _ _ _ => False
theorem Post.nox {α β : Type} {rel : Hp → List Addr → α → β → Prop} {α' β' : Type} {rel' : Hp → List Addr → α' → β' → Prop} {K : PySem.W.Frag} {W : WX} {ι : List Addr} {H : Hp} {σ σ' : St} {r : R α} {k : α → SS → R α'} {Q : β' → Hp → Prop} (h : Post rel' K W ι H σ (r.nox.bind k) Q) :
    Post rel K W0 ι H σ' r (fun v H1 => ∃ ι1 S1 x, Gr K H ι H1 ι1 ∧ RelS K H1 ι1 S1 ∧ rel H1 ι1 x v ∧ Post rel' K W ι1 H1 σ (k x S1) Q) := by
  cases r with
  | ok x S => exact fun v H1 ι1 g s q => ⟨ι1, S, x, g, s, q, h.later g⟩
  | exc C fs S => exact h.elim
  | bad => exact h.elim
section
variable {X : Cx} {W : WX} {tg iter elt : Expr} {ifs : List Expr} {it : PIt} {ct : CT} {t : PTs'} {el : PEx} {scope : Scope} {own : List (Str × Nat)} {pos : Pos}
theorem i_lc (hct : ∀ i ∈ ct.slots, i ∈ own.map (·.2)) {σ : St} {H : Hp} {Q : VK} (h : tOf X.K W (eLc it ct (own.map (·.2)) t el) σ H Q) : tLc (iOf X.K W it) (gC X.K ct) (tOfT X.K W0 t) (tOf X.K W0 el) (own.map (·.2)) σ H Q := by
  obtain ⟨ι, S, δ, rs, ro, q⟩ := h
  refine ⟨ι, S, δ, rs, ro, Post.mono (Post.bind (rel := JOk X.K) q) fun J H1 ⟨ι1, S1, x, g1, rs1, hJ, q1⟩ => fun Dd hD => ?_⟩
  obtain ⟨items, gd⟩ := x
  generalize hvs : own.map (·.2) = vs at *
  -- behind the new list
  have gD : Gr X.K H1 ι1 (upd H1 Dd (.lst [])) (ι1 ++ [Dd]) := Gr.push hD
  have rsD : RelS X.K (upd H1 Dd (.lst [])) (ι1 ++ [Dd]) (S1 ++ [.lst []]) := rs1.push hD ⟨[], upd_same, RDs.nil⟩
  have hk : (ι1 ++ [Dd])[S1.length]? = some Dd := by rw [← rs1.len]; simp
  refine ⟨fun i m H2 => ∃ ι2 S2, Gr X.K (upd H1 Dd (.lst [])) (ι1 ++ [Dd]) H2 ι2 ∧ RelS X.K H2 ι2 S2 ∧ m = items.length - i ∧ i ≤ items.length ∧
      Post (RD X.K) X.K W ι2 H2 σ ((lcGo gd ct t el (wipeD δ vs) S1.length (items.drop i) S2).bind fun _ S2 => .ok (.ref S1.length) S2) Q,
    ⟨_, _, _, Gr.refl, rsD, rfl, Nat.zero_le _, q1.later gD⟩, ?_⟩
  rintro i m H2 ⟨ι2, S2, g2, rs2, rfl, hi, q2⟩
  have g12 := gD.trans g2
  have hk2 : ι2[S1.length]? = some Dd := prefix_get g2.pre hk
  by_cases hlt : i < items.length
  · right
    have hd : items.drop i = items[i] :: items.drop (i + 1) := List.drop_eq_getElem_cons hlt
    rw [hd, lcGo] at q2
    split at q2
    · rename_i hgd
      have hj := (hJ i H2 ι2 S2 g12 rs2 hgd).1 items[i] (List.getElem?_eq_getElem hlt)
      refine ⟨hj.1, fun H' => ∃ ι2 S2, Gr X.K (upd H1 Dd (.lst [])) (ι1 ++ [Dd]) H' ι2 ∧ RelS X.K H' ι2 S2 ∧ Post (RD X.K) X.K W ι2 H' σ ((lcGo gd ct t el (wipeD δ vs) S1.length (items.drop (i + 1)) S2).bind fun _ S2 => .ok (.ref S1.length) S2) Q, fun H' ⟨ι3, S3, a1, a2, a3⟩ => ⟨items.length - (i + 1), by omega, ι3, S3, a1, a2, rfl, hlt, a3⟩, fun xv H' y => ?_⟩
      obtain ⟨g3, rs3, rx⟩ := hj.2 xv H' y
      have ro3 := (((ro.mono g1).mono (g12.trans g3)).wipe vs)
      split at q2
      · exact q2.elim
      · rename_i δ1 hb
        refine gC_ok hb rx ro3 fun σ' ro' hw => ⟨?_, ι2, S2, δ1, rs3, ro', ?_⟩
        · rw [hw vs hct]
          exact wipe_idem σ vs
        · have q3 := q2.later g3
          rw [R.bind_assoc] at q3
          refine Post.mono (Post.nox (rel := rB) q3) fun b H3 ⟨ι4, S4, b', g4, rs4, eb, q4⟩ => ?_
          have eb : b' = b := eb
          subst eb
          cases b' with
          | false =>
            simp only [Bool.false_eq_true, if_false] at q4 ⊢
            exact ⟨ι4, S4, (g2.trans g3).trans g4, rs4, q4⟩
          | true =>
            refine ⟨ι4, S4, δ1, rs4, ro'.mono g4, ?_⟩
            simp only [if_true] at q4
            rw [R.bind_assoc] at q4
            refine Post.mono (Post.nox (rel := RD X.K) q4) fun yv H4 ⟨ι5, S5, yd, g5, rs5, ry, q5⟩ => ?_
            have hk5 : ι5[S1.length]? = some Dd := prefix_get (g4.trans g5).pre (by exact hk2)
            split at q5
            · rename_i acc hacc
              split at q5
              · rename_i hz
                obtain ⟨vs', e1, e2⟩ := rs5.at _ _ _ hacc hk5
                refine ⟨vs', e1, by rw [← e2.length]; exact hz, ?_⟩
                have gw : Gr X.K H4 ι5 (upd H4 Dd (.lst (vs' ++ [yv]))) ι5 := Gr.write rs5 hk5
                refine ⟨ι5, _, (((g2.trans g3).trans g4).trans g5).trans gw, rs5.write (ob := .lst (acc ++ [yd])) hk5 ⟨_, upd_same, (e2.append (RDs.cons ry RDs.nil)).mono gw⟩, q5.later gw⟩
              · exact q5.elim
            · exact q5.elim
    · exact q2.elim
  · left
    have e : i = items.length := by omega
    subst e
    rw [List.drop_length, lcGo] at q2
    split at q2
    · rename_i hgd
      refine ⟨(hJ _ H2 ι2 S2 g12 rs2 hgd).2 (Nat.le_refl _), q2 _ H2 ι2 Gr.refl rs2 ?_⟩
      unfold RD
      exact ⟨Dd, rfl, hk2⟩
    · exact q2.elim
end
end DL
set_option Elab.async false
set_option linter.all false
set_option maxRecDepth 100000
set_option maxHeartbeats 1000000
/-! DRev: a tuple's items from behind. -/
namespace DL
open PySem PySem.Spec PyProof.Rows L2
section
variable {prog : Program} {w : World} {A : Around} {E : Value → Shared → Prop} {s : Shared}
theorem rev_pick (xs : Array Value) : ((List.range xs.size).filterMap fun (m : Nat) => xs[(((xs.size : Int) - 1) + (m : Int) * (-1)).toNat]?).toArray = xs.toList.reverse.toArray := by
  congr 1
  apply List.ext_getElem?
  intro i
  have key : ∀ n, n ≤ xs.size → ((List.range n).filterMap fun (m : Nat) => xs[(((xs.size : Int) - 1) + (m : Int) * (-1)).toNat]?) = (xs.toList.reverse).take n := by
    intro n
    induction n with
    | zero => intro _; simp
    | succ n ih =>
      intro hn
      rw [List.range_succ, List.filterMap_append, ih (by omega), List.take_add_one]
      congr 1
      have e : (((xs.size : Int) - 1) + (n : Int) * (-1)).toNat = xs.size - 1 - n := by omega
      have h1 : xs.size - 1 - n < xs.size := by omega
      have h2 : n < xs.toList.reverse.length := by simp; omega
      simp only [List.filterMap_cons, List.filterMap_nil, e]
      rw [Array.getElem?_eq_getElem h1, List.getElem?_eq_getElem h2, List.getElem_reverse]
      simp
  rw [key xs.size (Nat.le_refl _), List.take_of_length_le (by simp)]
theorem adjust_rev (n : Nat) : Builtin.Slice.sliceAdjust none none (-1) (n : Int) = ((n : Int) - 1, -1) := by
  unfold Builtin.Slice.sliceAdjust
  simp
theorem places_rev (n : Nat) : Builtin.Slice.slicePlaces ((n : Int) - 1) (-1) (-1) = n := by
  unfold Builtin.Slice.slicePlaces
  have h1 : ¬ ((-1 : Int) > 0) := by omega
  simp only [h1, if_false, Int.neg_neg, Int.ediv_one]
  split <;> omega
theorem getItem_tuple_rev {t sl : Addr} {items : Array Value} {vs : Value} {Q : Value → Shared → Prop} (ht : IsTup s.heap t items) (hs : s.heap.IsSliceOf sl .none .none vs) (ps : IsPart vs (some (-1)))
    (h : Q (.ref s.heap.objs.size) { s with heap := s.heap.push { cls := .type "tuple", data := .seq items.toList.reverse.toArray } }) (hsz : items.size ≤ sizeLine) : wpAny (model prog w) A (getItem (.ref t) (.ref sl)) Q E s := by
  have fits : sizeOk (.seq items.toList.reverse.toArray) := by
    show items.toList.reverse.toArray.size ≤ sizeLine
    simpa using hsz
  obtain ⟨os, hos, hcs, hds⟩ := id hs
  have tyS : s.TypeIs (.ref sl) "slice" := ⟨os, hos, hcs⟩
  unfold getItem
  try with_reducible refine wpAny_holding ?_
  first | refine wpAny_bind (wpAny_pure ?_) | skip
  refine wpAny_bind (wpAny_sequenceKey ht.typeIs (by decide) (wpAny_bind (wpAny_callSpecial?_slot (name := Str.ofString "__getitem__") ht.typeIs PyProof.Rows.slot_tuple_getitem
    (wpAny_call_entry PyProof.Rows.slot_tuple_getitem ht.typeIs entry_tuple_getitem ?_ (args_tuple_getitem _ _)))))
  show wpAny _ _ (Builtin.Tuple.tupleItemsOf (.ref t) >>= _) _ _ s
  refine wpAny_bind (tupleItemsOf_ ht (wpAny_bind (wpAny_typeOf tyS ?_)))
  rw [if_pos (by decide)]
  have applied : ∀ {A : Around} {E : Value → Shared → Prop} {Q : Int × Int × Nat → Shared → Prop}, Q ((items.size : Int) - 1, -1, items.size) s → wpAny (model prog w) A (Builtin.Slice.sliceApplied (.ref sl) (pure (items.size : Int))) Q E s := fun {A E Q} q => by
    unfold Builtin.Slice.sliceApplied Builtin.Slice.sliceFields
    refine wpAny_bind (wpAny_bind (wpAny_field hos hds (x := .none) rfl (wpAny_bind (wpAny_field hos hds (x := .none) rfl (wpAny_bind (wpAny_field hos hds (x := vs) rfl (wpAny_pure ?_)))))))
    refine wpAny_bind (HT.slicePart_ ps ?_)
    show wpAny _ _ (if ((-1 : Int) == 0) = true then _ else _) _ _ s
    rw [if_neg (by decide)]
    refine wpAny_bind (slicePart_none (wpAny_bind (slicePart_none (wpAny_bind (wpAny_pure ?_)))))
    show wpAny _ _ (match Builtin.Slice.sliceAdjust none none (-1) (items.size : Int) with | (lo, hi) => pure (lo, (-1 : Int), Builtin.Slice.slicePlaces lo hi (-1))) _ _ s
    rw [adjust_rev]
    show wpAny _ _ (pure ((items.size : Int) - 1, (-1 : Int), Builtin.Slice.slicePlaces ((items.size : Int) - 1) (-1) (-1))) _ _ s
    rw [places_rev]
    exact wpAny_pure q
  refine wpAny_bind (applied ?_)
  have no : ¬ ((((items.size : Int) - 1) == 0 && (-1 : Int) == 1 && items.size == items.size) = true) := by
    intro q
    rw [Bool.and_eq_true, Bool.and_eq_true] at q
    exact absurd q.1.2 (by decide)
  show wpAny _ _ (if (((items.size : Int) - 1) == 0 && (-1 : Int) == 1 && items.size == items.size) = true then _ else _) _ _ s
  rw [if_neg no, rev_pick]
  first
    | exact wpAny_bind (m := Builtin.Tuple.tupleExact _) (wpAny_newObj_type (wpAny_pure ⟨_, rfl, wpAny_pure h⟩) fits)
    | exact wpAny_bind (m := Builtin.Tuple.tupleExact _) (wpAny_newObj_type (wpAny_bind (wpAny_pure (wpAny_pure ⟨_, rfl, wpAny_pure h⟩))) fits)
    | exact wpAny_bind (wpAny_bind (m := Builtin.Tuple.tupleExact _) (wpAny_newObj_type (wpAny_pure (wpAny_pure ⟨_, rfl, wpAny_pure h⟩)) fits))
    | exact wpAny_bind (wpAny_bind (m := Builtin.Tuple.tupleExact _) (wpAny_newObj_type (wpAny_pure ⟨_, rfl, wpAny_pure h⟩) fits))
end
abbrev mRev (k : Nat) (p1 p2 p3 : Pos) : Expr := .Slice none none (some (.UnaryOp .USub (.Constant (.int 1) k p1) p2)) p3
/-- x[::-1] of a list, of a tuple -/
theorem pe_revA {X : Cx} {e : Expr} {te : TE} {k : Nat} {p1 p2 p3 pos : Pos} (he : PE X e te) : PE X (.Subscript e (mRev k p1 p2 p3) pos) (fun σ H Q => te σ H fun x H1 => ∃ a xs, x = .ref a ∧
    ((SqL X.K H1 a xs ∧ ∀ p, H1 p = none → Q (.ref p) (upd H1 p (.lst xs.reverse))) ∨ (SqT X.K H1 a xs ∧ ∀ p, H1 p = none → Q (.ref p) (upd H1 p (.tup xs.reverse))))) := by
  refine ⟨fun pins s σ H Q I h => Subscript_ (thn (he.run pins s σ H _ I h) fun v s1 hh => ?_)⟩
  obtain ⟨x, H1, I1, r1, a, xs, rfl, q⟩ := hh
  obtain rfl : v = Value.ref a := r1
  have minus : PO X (some (.UnaryOp .USub (.Constant (.int 1) k p1) p2)) (tPart (tUn (rU fun i => .int (-i)) (tC (.int 1)))) := po_some (pe_un un_neg pe_int)
  refine wpAny_Slice (thn (po_none.run pins s1 σ H1 (fun o H2 => o = none ∧ H2 = H1) I1 ⟨rfl, rfl⟩) fun vl s2 h2 => ?_)
  obtain ⟨l, H2, I2, pl, rfl, rfl⟩ := h2
  refine thn (po_none.run pins s2 σ H2 (fun o H3 => o = none ∧ H3 = H2) I2 ⟨rfl, rfl⟩) fun vu s3 h3 => ?_
  obtain ⟨u, H3, I3, pu, rfl, rfl⟩ := h3
  refine thn (minus.run pins s3 σ H3 (fun o H4 => o = some (-1) ∧ H4 = H3) I3 ⟨1, rfl, -1, rfl, rfl, rfl⟩) fun vs s4 h4 => ?_
  obtain ⟨o, H4, I4, ps, rfl, rfl⟩ := h4
  have I5 : Inv X pins σ H4 { s4 with heap := s4.heap.push { cls := .type "slice", data := .fields #[vl, vu, vs] } } := I4.kept (t' := s4.toks) fun b ob q => Heap.get?_push_of_some _ q
  show wpAny (model X.prog X.w) X.A (subscriptTail e (mRev k p1 p2 p3) (.ref a) (.ref s4.heap.objs.size)) (EP X pins σ Q) X.xe { s4 with heap := s4.heap.push { cls := .type "slice", data := .fields #[vl, vu, vs] } }
  rcases q with ⟨hx, q⟩ | ⟨hx, q⟩
  · obtain ⟨its, r, ht, hz⟩ := I5.list hx
    have hlen := r.length
    refine tail_any (ops := [.ref a, .ref s4.heap.objs.size]) ht.isList.typeIs (PySem.slot_list_getitem.lookup) (wpAny_getItem_list_slice ht.isList (Heap.IsSliceOf.new _ vl vu vs) pl pu ps (by decide) ?_ (by rw [List.size_toArray]; omega)) (by with_unfolding_all rfl)
    rw [PySem.W.krv_pick]
    exact ⟨.ref _, _, I5.laid (t' := s4.toks) (o := .lst xs.reverse) (fun b ob q => Heap.get?_push_of_some _ q) (Nat.le_refl _) ⟨by rw [List.length_reverse]; exact hz, _, 0, r.reverse, Heap.get?_push_size _ rfl⟩, rfl, q _ (I5.hok.fresh (Nat.le_refl _))⟩
  · obtain ⟨its, r, ht, hz⟩ := I5.tuple hx
    have hlen := r.length
    cases pl
    cases pu
    refine tail_any (ops := [.ref a, .ref s4.heap.objs.size]) ht.typeIs PyProof.Rows.slot_tuple_getitem.lookup (getItem_tuple_rev ht (Heap.IsSliceOf.new _ .none .none vs) ps ?_ (by rw [List.size_toArray]; omega)) (by with_unfolding_all rfl)
    exact ⟨.ref _, _, I5.laid (t' := s4.toks) (o := .tup xs.reverse) (fun b ob q => Heap.get?_push_of_some _ q) (Nat.le_refl _) ⟨by rw [List.length_reverse]; exact hz, _, r.reverse, IsTup.new _ _⟩, rfl, q _ (I5.hok.fresh (Nat.le_refl _))⟩
def isRev : Expr → Bool
  | .Slice none none (some (.UnaryOp .USub (.Constant (.int i) _ _) _)) _ => i == 1
  | _ => false
theorem isRev_ok {e : Expr} (h : isRev e = true) : ∃ k p1 p2 p3, e = mRev k p1 p2 p3 := by
  unfold isRev at h
  split at h
  · obtain rfl := eq_of_beq h
    exact ⟨_, _, _, _, rfl⟩
  · cases h
theorem de_rev {X : Cx} {W : WX} {a s : Expr} {fa : PEx} {pos : Pos} (h : isRev s = true) (ha : PE X a (tOf X.K W fa)) : PE X (.Subscript a s pos) (tOf X.K W (eOp1 revD fa)) := by
  obtain ⟨k, p1, p2, p3, rfl⟩ := isRev_ok h
  refine PE.imp (pe_revA ha) fun σ H Q ⟨ι, S, δ, rs, ro, q⟩ => ⟨ι, S, δ, rs, ro, Post.mono (Post.bind (rel := RD X.K) q) fun v H1 ⟨ι1, S1, x, g1, rs1, rx, q1⟩ => ?_⟩
  have q2 := q1.ofO
  unfold revD at q2
  split at q2
  · obtain ⟨p, vs, rfl, t1, l1⟩ := rx.tup
    exact ⟨p, vs, rfl, .inr ⟨t1, fun p' hp => q2.newT rs1 l1.reverse hp⟩⟩
  · split at q2
    · rename_i ds hs
      obtain ⟨p, vs, rfl, t1, l1⟩ := itemsD_ok rs1 rx hs
      exact ⟨p, vs, rfl, .inl ⟨t1, fun p' hp => q2.newL rs1 l1.reverse hp⟩⟩
    · exact q2.elim
end DL
set_option Elab.async false
set_option linter.all false
set_option maxRecDepth 100000
set_option maxHeartbeats 1000000
/-! DRev2: a tuple's items from behind, without the last one. -/
namespace DL
open PySem PySem.Spec PyProof.Rows L2
section
variable {prog : Program} {w : World} {A : Around} {E : Value → Shared → Prop} {s : Shared}
theorem rev2_pick (xs : Array Value) : ((List.range (xs.size - 1)).filterMap fun (m : Nat) => xs[(((xs.size : Int) - 2) + (m : Int) * (-1)).toNat]?).toArray = (xs.toList.take (xs.size - 1)).reverse.toArray := by
  congr 1
  have key : ∀ n, n ≤ xs.size - 1 → ((List.range n).filterMap fun (m : Nat) => xs[(((xs.size : Int) - 2) + (m : Int) * (-1)).toNat]?) = ((xs.toList.take (xs.size - 1)).reverse).take n := by
    intro n
    induction n with
    | zero => intro _; simp
    | succ n ih =>
      intro hn
      rw [List.range_succ, List.filterMap_append, ih (by omega), List.take_add_one]
      congr 1
      have e : (((xs.size : Int) - 2) + (n : Int) * (-1)).toNat = xs.size - 2 - n := by omega
      have h1 : xs.size - 2 - n < xs.size := by omega
      have h2 : n < (xs.toList.take (xs.size - 1)).reverse.length := by simp; omega
      simp only [List.filterMap_cons, List.filterMap_nil, e]
      rw [Array.getElem?_eq_getElem h1, List.getElem?_eq_getElem h2, List.getElem_reverse, List.getElem_take]
      have hl : (xs.toList.take (xs.size - 1)).length = xs.size - 1 := by simp
      have e3 : (xs.toList.take (xs.size - 1)).length - 1 - n = xs.size - 2 - n := by rw [hl]; omega
      simp only [Option.toList_some]
      congr 1
      rw [← Array.getElem_toList]
      congr 1
      exact e3.symm
  rw [key (xs.size - 1) (Nat.le_refl _), List.take_of_length_le (by simp)]
theorem adjust_rev2 (n : Nat) (h : 0 < n) : Builtin.Slice.sliceAdjust (some (-2)) none (-1) (n : Int) = ((n : Int) - 2, -1) := by
  unfold Builtin.Slice.sliceAdjust
  have : max (-2 + (n : Int)) (-1) = (n : Int) - 2 := by omega
  simp [this]
theorem places_rev2 (n : Nat) (h : 0 < n) : Builtin.Slice.slicePlaces ((n : Int) - 2) (-1) (-1) = n - 1 := by
  unfold Builtin.Slice.slicePlaces
  have h1 : ¬ ((-1 : Int) > 0) := by omega
  simp only [h1, if_false, Int.neg_neg, Int.ediv_one]
  split <;> omega
theorem getItem_tuple_rev2 {t sl : Addr} {items : Array Value} {vl vs : Value} {Q : Value → Shared → Prop} (ht : IsTup s.heap t items) (hs : s.heap.IsSliceOf sl vl .none vs) (pl : IsPart vl (some (-2))) (ps : IsPart vs (some (-1))) (hne : 0 < items.size)
    (h : Q (.ref s.heap.objs.size) { s with heap := s.heap.push { cls := .type "tuple", data := .seq (items.toList.take (items.size - 1)).reverse.toArray } }) (hsz : items.size ≤ sizeLine) : wpAny (model prog w) A (getItem (.ref t) (.ref sl)) Q E s := by
  have fits : sizeOk (.seq (items.toList.take (items.size - 1)).reverse.toArray) := by
    show (items.toList.take (items.size - 1)).reverse.toArray.size ≤ sizeLine
    simp; omega
  obtain ⟨os, hos, hcs, hds⟩ := id hs
  have tyS : s.TypeIs (.ref sl) "slice" := ⟨os, hos, hcs⟩
  unfold getItem
  try with_reducible refine wpAny_holding ?_
  first | refine wpAny_bind (wpAny_pure ?_) | skip
  refine wpAny_bind (wpAny_sequenceKey ht.typeIs (by decide) (wpAny_bind (wpAny_callSpecial?_slot (name := Str.ofString "__getitem__") ht.typeIs PyProof.Rows.slot_tuple_getitem
    (wpAny_call_entry PyProof.Rows.slot_tuple_getitem ht.typeIs entry_tuple_getitem ?_ (args_tuple_getitem _ _)))))
  show wpAny _ _ (Builtin.Tuple.tupleItemsOf (.ref t) >>= _) _ _ s
  refine wpAny_bind (tupleItemsOf_ ht (wpAny_bind (wpAny_typeOf tyS ?_)))
  rw [if_pos (by decide)]
  have applied : ∀ {A : Around} {E : Value → Shared → Prop} {Q : Int × Int × Nat → Shared → Prop}, Q ((items.size : Int) - 2, -1, items.size - 1) s → wpAny (model prog w) A (Builtin.Slice.sliceApplied (.ref sl) (pure (items.size : Int))) Q E s := fun {A E Q} q => by
    unfold Builtin.Slice.sliceApplied Builtin.Slice.sliceFields
    refine wpAny_bind (wpAny_bind (wpAny_field hos hds (x := vl) rfl (wpAny_bind (wpAny_field hos hds (x := .none) rfl (wpAny_bind (wpAny_field hos hds (x := vs) rfl (wpAny_pure ?_)))))))
    refine wpAny_bind (HT.slicePart_ ps ?_)
    show wpAny _ _ (if ((-1 : Int) == 0) = true then _ else _) _ _ s
    rw [if_neg (by decide)]
    refine wpAny_bind (HT.slicePart_ pl (wpAny_bind (slicePart_none (wpAny_bind (wpAny_pure ?_)))))
    show wpAny _ _ (match Builtin.Slice.sliceAdjust (some (-2)) none (-1) (items.size : Int) with | (lo, hi) => pure (lo, (-1 : Int), Builtin.Slice.slicePlaces lo hi (-1))) _ _ s
    rw [adjust_rev2 _ hne]
    show wpAny _ _ (pure ((items.size : Int) - 2, (-1 : Int), Builtin.Slice.slicePlaces ((items.size : Int) - 2) (-1) (-1))) _ _ s
    rw [places_rev2 _ hne]
    exact wpAny_pure q
  refine wpAny_bind (applied ?_)
  have no : ¬ ((((items.size : Int) - 2) == 0 && (-1 : Int) == 1 && items.size - 1 == items.size) = true) := by
    intro q
    rw [Bool.and_eq_true, Bool.and_eq_true] at q
    exact absurd q.1.2 (by decide)
  show wpAny _ _ (if (((items.size : Int) - 2) == 0 && (-1 : Int) == 1 && items.size - 1 == items.size) = true then _ else _) _ _ s
  rw [if_neg no, rev2_pick]
  first
    | exact wpAny_bind (m := Builtin.Tuple.tupleExact _) (wpAny_newObj_type (wpAny_pure ⟨_, rfl, wpAny_pure h⟩) fits)
    | exact wpAny_bind (m := Builtin.Tuple.tupleExact _) (wpAny_newObj_type (wpAny_bind (wpAny_pure (wpAny_pure ⟨_, rfl, wpAny_pure h⟩))) fits)
    | exact wpAny_bind (wpAny_bind (m := Builtin.Tuple.tupleExact _) (wpAny_newObj_type (wpAny_pure (wpAny_pure ⟨_, rfl, wpAny_pure h⟩)) fits))
    | exact wpAny_bind (wpAny_bind (m := Builtin.Tuple.tupleExact _) (wpAny_newObj_type (wpAny_pure ⟨_, rfl, wpAny_pure h⟩) fits))
end
abbrev mRev2 (k m : Nat) (p1 p2 p3 p4 p5 : Pos) : Expr := .Slice (some (.UnaryOp .USub (.Constant (.int 2) m p4) p5)) none (some (.UnaryOp .USub (.Constant (.int 1) k p1) p2)) p3
/-- x[-2::-1] of a tuple -/
theorem pe_rev2A {X : Cx} {e : Expr} {te : TE} {k m : Nat} {p1 p2 p3 p4 p5 pos : Pos} (he : PE X e te) : PE X (.Subscript e (mRev2 k m p1 p2 p3 p4 p5) pos) (fun σ H Q => te σ H fun x H1 => ∃ a xs, x = .ref a ∧
    (SqT X.K H1 a xs ∧ 0 < xs.length ∧ ∀ p, H1 p = none → Q (.ref p) (upd H1 p (.tup (xs.take (xs.length - 1)).reverse)))) := by
  refine ⟨fun pins s σ H Q I h => Subscript_ (thn (he.run pins s σ H _ I h) fun v s1 hh => ?_)⟩
  obtain ⟨x, H1, I1, r1, a, xs, rfl, hx, hne, q⟩ := hh
  obtain rfl : v = Value.ref a := r1
  have minus : PO X (some (.UnaryOp .USub (.Constant (.int 1) k p1) p2)) (tPart (tUn (rU fun i => .int (-i)) (tC (.int 1)))) := po_some (pe_un un_neg pe_int)
  have minus2 : PO X (some (.UnaryOp .USub (.Constant (.int 2) m p4) p5)) (tPart (tUn (rU fun i => .int (-i)) (tC (.int 2)))) := po_some (pe_un un_neg pe_int)
  refine wpAny_Slice (thn (minus2.run pins s1 σ H1 (fun o H2 => o = some (-2) ∧ H2 = H1) I1 ⟨2, rfl, -2, rfl, rfl, rfl⟩) fun vl s2 h2 => ?_)
  obtain ⟨l, H2, I2, pl, rfl, rfl⟩ := h2
  refine thn (po_none.run pins s2 σ H2 (fun o H3 => o = none ∧ H3 = H2) I2 ⟨rfl, rfl⟩) fun vu s3 h3 => ?_
  obtain ⟨u, H3, I3, pu, rfl, rfl⟩ := h3
  refine thn (minus.run pins s3 σ H3 (fun o H4 => o = some (-1) ∧ H4 = H3) I3 ⟨1, rfl, -1, rfl, rfl, rfl⟩) fun vs s4 h4 => ?_
  obtain ⟨o, H4, I4, ps, rfl, rfl⟩ := h4
  have I5 : Inv X pins σ H4 { s4 with heap := s4.heap.push { cls := .type "slice", data := .fields #[vl, vu, vs] } } := I4.kept (t' := s4.toks) fun b ob q => Heap.get?_push_of_some _ q
  show wpAny (model X.prog X.w) X.A (subscriptTail e (mRev2 k m p1 p2 p3 p4 p5) (.ref a) (.ref s4.heap.objs.size)) (EP X pins σ Q) X.xe { s4 with heap := s4.heap.push { cls := .type "slice", data := .fields #[vl, vu, vs] } }
  obtain ⟨its, r, ht, hz⟩ := I5.tuple hx
  have hlen := r.length
  cases pu
  refine tail_any (ops := [.ref a, .ref s4.heap.objs.size]) ht.typeIs PyProof.Rows.slot_tuple_getitem.lookup (getItem_tuple_rev2 ht (Heap.IsSliceOf.new _ vl .none vs) pl ps (by rw [List.size_toArray]; omega) ?_ (by rw [List.size_toArray]; omega)) (by with_unfolding_all rfl)
  have hr := (r.take (its.length - 1)).reverse
  rw [show its.length - 1 = xs.length - 1 by omega] at hr
  have e1 : (its.toArray.toList.take (its.toArray.size - 1)).reverse = (its.take (xs.length - 1)).reverse := by
    rw [List.size_toArray, ← hlen]
  rw [e1]
  exact ⟨.ref _, _, I5.laid (t' := s4.toks) (o := .tup (xs.take (xs.length - 1)).reverse) (fun b ob q => Heap.get?_push_of_some _ q) (Nat.le_refl _) ⟨by rw [List.length_reverse, List.length_take]; omega, _, hr, IsTup.new _ _⟩, rfl, q _ (I5.hok.fresh (Nat.le_refl _))⟩
def isRev2 : Expr → Bool
  | .Slice (some (.UnaryOp .USub (.Constant (.int j) _ _) _)) none (some (.UnaryOp .USub (.Constant (.int i) _ _) _)) _ => i == 1 && j == 2
  | _ => false
theorem isRev2_ok {e : Expr} (h : isRev2 e = true) : ∃ k m p1 p2 p3 p4 p5, e = mRev2 k m p1 p2 p3 p4 p5 := by
  unfold isRev2 at h
  split at h
  · rw [Bool.and_eq_true] at h
    obtain rfl := eq_of_beq h.1
    obtain rfl := eq_of_beq h.2
    exact ⟨_, _, _, _, _, _, _, rfl⟩
  · cases h
/-- [-2::-1] of a tuple that is not empty -/
def rev2D : G1 := fun d S => match d with
  | .tup ds => if 0 < ds.length then some (.tup (ds.take (ds.length - 1)).reverse, S) else none
  | _ => none
theorem de_rev2 {X : Cx} {W : WX} {a s : Expr} {fa : PEx} {pos : Pos} (h : isRev2 s = true) (ha : PE X a (tOf X.K W fa)) : PE X (.Subscript a s pos) (tOf X.K W (eOp1 rev2D fa)) := by
  obtain ⟨k, m, p1, p2, p3, p4, p5, rfl⟩ := isRev2_ok h
  refine PE.imp (pe_rev2A ha) fun σ H Q ⟨ι, S, δ, rs, ro, q⟩ => ⟨ι, S, δ, rs, ro, Post.mono (Post.bind (rel := RD X.K) q) fun v H1 ⟨ι1, S1, x, g1, rs1, rx, q1⟩ => ?_⟩
  have q2 := q1.ofO
  unfold rev2D at q2
  split at q2
  · split at q2
    · rename_i ds hne
      obtain ⟨p, vs, rfl, t1, l1⟩ := rx.tup
      have hl := l1.length
      refine ⟨p, vs, rfl, t1, by omega, fun p' hp => q2.newT rs1 ?_ hp⟩
      rw [← hl]
      exact (l1.take _).reverse
    · exact q2.elim
  · exact q2.elim
end DL
set_option Elab.async false
set_option linter.all false
set_option maxRecDepth 100000
set_option maxHeartbeats 1000000
/-! DRng: a range as a tuple or a list; what is reversed. -/
namespace DL
open PySem L2
open Classical
noncomputable def tupRg1D : G1
  | .int n, S => if RgOk 0 n then some (.tup (rngItems 0 n.toNat 1), S) else none
  | _, _ => none
noncomputable def tupRg2D : G2
  | .int i, .int j, S => if RgOk i j then some (.tup (rngItems i (j - i).toNat 1), S) else none
  | _, _, _ => none
noncomputable def lstRg1D : G1
  | .int n, S => if RgOk 0 n then some (.ref S.length, S ++ [.lst (rngItems 0 n.toNat 1)]) else none
  | _, _ => none
noncomputable def lstRg2D : G2
  | .int i, .int j, S => if RgOk i j then some (.ref S.length, S ++ [.lst (rngItems i (j - i).toNat 1)]) else none
  | _, _, _ => none
def tupRevD : G1 := fun d S => match itemsD d S with
  | some ds => some (.tup ds.reverse, S)
  | none => none
def revItD : List D → SS → Option IT
  | [.ref k], S => match S[k]? with
    | some (.lst ds) => some (ds.reverse, [(k, ds)])
    | _ => none
  | [.tup ds], _ => some (ds.reverse, [])
  | _, _ => none
theorem rds_map {K : PySem.W.Frag} {H : Hp} {ι : List Addr} {α : Type} {f : α → D} {g : α → V} : ∀ (l : List α), (∀ a ∈ l, RD K H ι (f a) (g a)) → RDs K H ι (l.map f) (l.map g)
  | [], _ => RDs.nil
  | a :: l, h => RDs.cons (h a (by simp)) (rds_map l fun b hb => h b (by simp [hb]))
theorem rds_rg {K : PySem.W.Frag} {H : Hp} {ι : List Addr} {i j : Int} : RDs K H ι (rngItems i (j - i).toNat 1) (rgV i j) := by
  refine rds_map _ fun a _ => ?_
  rw [Int.mul_one]
  exact RD.mint
theorem rds_rg0 {K : PySem.W.Frag} {H : Hp} {ι : List Addr} {j : Int} : RDs K H ι (rngItems 0 j.toNat 1) (rgV 0 j) := by
  have := rds_rg (K := K) (H := H) (ι := ι) (i := 0) (j := j)
  rwa [Int.sub_zero] at this
section
variable {X : Cx} {W : WX} {tg a b : Expr} {fa fb : PEx} {p p2 pos pos2 : Pos}
theorem de_tupRg1 (hc : X.calm = true) (hg : Gl X "tuple") (hm : X.mg "tuple" = none) (hg2 : Gl X "range") (hm2 : X.mg "range" = none) (ha : PE X a (tOf X.K W fa)) (na : starEach [a] X.env = (false, eval a X.env) :: starEach [] X.env) :
    PE X (.Call (.Name "tuple" p) [.Call (.Name "range" p2) [a] [] pos2] [] pos) (tOf X.K W (eOp1 tupRg1D fa)) :=
  de_op1 (pe_tupRg hc hg hm (prg_1 hg2 hm2 ha na) rfl) fun x H Q ⟨ι, S, d, rs, rd, q⟩ => by
    unfold tupRg1D at q
    split at q
    · split at q
      · rename_i hr
        rw [rd.int]
        exact ⟨_, rfl, hr, fun q' hq => q.newT rs rds_rg0 hq⟩
      · exact q.elim
    · exact q.elim
theorem de_lstRg1 (hc : X.calm = true) (hg : Gl X "list") (hm : X.mg "list" = none) (hg2 : Gl X "range") (hm2 : X.mg "range" = none) (ha : PE X a (tOf X.K W fa)) (na : starEach [a] X.env = (false, eval a X.env) :: starEach [] X.env) :
    PE X (.Call (.Name "list" p) [.Call (.Name "range" p2) [a] [] pos2] [] pos) (tOf X.K W (eOp1 lstRg1D fa)) :=
  de_op1 (pe_listRg hc hg hm (prg_1 hg2 hm2 ha na) rfl) fun x H Q ⟨ι, S, d, rs, rd, q⟩ => by
    unfold lstRg1D at q
    split at q
    · split at q
      · rename_i hr
        rw [rd.int]
        exact ⟨_, rfl, hr, fun q' hq => q.newL rs rds_rg0 hq⟩
      · exact q.elim
    · exact q.elim
theorem de_tupRg2 (hc : X.calm = true) (hg : Gl X "tuple") (hm : X.mg "tuple" = none) (hg2 : Gl X "range") (hm2 : X.mg "range" = none) (ha : PE X a (tOf X.K W fa)) (hb : PE X b (tOf X.K W fb)) (na : starEach [a, b] X.env = (false, eval a X.env) :: starEach [b] X.env)
    (nb : starEach [b] X.env = (false, eval b X.env) :: starEach [] X.env) (hp : (backTo pos2 (starEach [b] X.env)).any (·.1) = false) : PE X (.Call (.Name "tuple" p) [.Call (.Name "range" p2) [a, b] [] pos2] [] pos) (tOf X.K W (eOp2 tupRg2D fa fb)) :=
  de_op2 (pe_tupRg hc hg hm (prg_2 hg2 hm2 ha hb na nb hp) rfl) fun x y H Q ⟨ι, S, d, e, rs, rd, re, q⟩ => by
    unfold tupRg2D at q
    split at q
    · split at q
      · rename_i hr
        rw [rd.int, re.int]
        exact ⟨_, _, rfl, rfl, hr, fun q' hq => q.newT rs rds_rg hq⟩
      · exact q.elim
    · exact q.elim
theorem de_lstRg2 (hc : X.calm = true) (hg : Gl X "list") (hm : X.mg "list" = none) (hg2 : Gl X "range") (hm2 : X.mg "range" = none) (ha : PE X a (tOf X.K W fa)) (hb : PE X b (tOf X.K W fb)) (na : starEach [a, b] X.env = (false, eval a X.env) :: starEach [b] X.env)
    (nb : starEach [b] X.env = (false, eval b X.env) :: starEach [] X.env) (hp : (backTo pos2 (starEach [b] X.env)).any (·.1) = false) : PE X (.Call (.Name "list" p) [.Call (.Name "range" p2) [a, b] [] pos2] [] pos) (tOf X.K W (eOp2 lstRg2D fa fb)) :=
  de_op2 (pe_listRg hc hg hm (prg_2 hg2 hm2 ha hb na nb hp) rfl) fun x y H Q ⟨ι, S, d, e, rs, rd, re, q⟩ => by
    unfold lstRg2D at q
    split at q
    · split at q
      · rename_i hr
        rw [rd.int, re.int]
        exact ⟨_, _, rfl, rfl, hr, fun q' hq => q.newL rs rds_rg hq⟩
      · exact q.elim
    · exact q.elim
theorem de_tupRev (hc : X.calm = true) (hg : Gl X "tuple") (hm : X.mg "tuple" = none) (hg2 : Gl X "reversed") (hm2 : X.mg "reversed" = none) (ha : PE X a (tOf X.K W fa)) (na : starEach [a] X.env = (false, eval a X.env) :: starEach [] X.env) :
    PE X (.Call (.Name "tuple" p) [.Call (.Name "reversed" p2) [a] [] pos2] [] pos) (tOf X.K W (eOp1 tupRevD fa)) :=
  de_op1 (RT.pe_tupRev hc hg hm hg2 hm2 ha na rfl) fun x H Q ⟨ι, S, d, rs, rd, q⟩ => by
    unfold tupRevD at q
    split at q
    · rename_i ds hs
      obtain ⟨p, vs, rfl, t1, l1⟩ := itemsD_ok rs rd hs
      exact ⟨p, vs, rfl, t1, fun p' hp => q.newT rs l1.reverse hp⟩
    · exact q.elim
theorem rds_rev_get {K : PySem.W.Frag} {H : Hp} {ι : List Addr} {ds : List D} {vs : List V} {i : Nat} {d : D} (r : RDs K H ι ds vs) (h : ds.reverse[i]? = some d) : i < vs.length ∧ ∃ v, vs[vs.length - 1 - i]? = some v ∧ RD K H ι d v := by
  have hl := (List.getElem?_eq_some_iff.mp h).1
  rw [List.length_reverse] at hl
  rw [List.getElem?_reverse hl] at h
  rw [← r.length]
  exact ⟨hl, r.get h⟩
theorem jok_revL {K : PySem.W.Frag} {H0 : Hp} {ι0 : List Addr} {a : Addr} {k n : Nat} {ds : List D} (hk : ι0[k]? = some a) (hn : n = ds.length) : JOk K H0 ι0 (ds.reverse, [(k, ds)]) (Itv K a n) := by
  intro i H ι S g rs gk
  obtain ⟨e, _⟩ := gk
  obtain ⟨vs, h1, h2⟩ := rs.at k _ a e (prefix_get g.pre hk)
  have hl := h2.length
  refine ⟨fun d hd => ?_, fun hl' => by
    have : ds.reverse.length ≤ i := hl'
    rw [List.length_reverse] at this
    show n ≤ i
    omega⟩
  obtain ⟨l1, v, e1, r1⟩ := rds_rev_get h2 hd
  have en : n = vs.length := by omega
  subst en
  refine ⟨⟨l1, vs, v, SqL.of h1, e1⟩, fun x H' y => ?_⟩
  obtain ⟨e2, y2⟩ := y
  subst e2
  have e3 := y2 vs (SqL.of h1)
  rw [e1] at e3
  cases e3
  exact ⟨Gr.refl, rs, r1⟩
theorem jok_revT {K : PySem.W.Frag} {H0 : Hp} {ι0 : List Addr} {a : Addr} {n : Nat} {ds : List D} {vs : List V} (h : SqT K H0 a vs) (r : RDs K H0 ι0 ds vs) (hn : n = vs.length) : JOk K H0 ι0 (ds.reverse, []) (RT.ItvT K a n) := by
  intro i H ι S g rs gk
  have h1 := g.tup a vs h
  have h2 := r.mono g
  have hl := h2.length
  subst hn
  refine ⟨fun d hd => ?_, fun hl' => by
    have : ds.reverse.length ≤ i := hl'
    rw [List.length_reverse] at this
    show vs.length ≤ i
    omega⟩
  obtain ⟨l1, v, e1, r1⟩ := rds_rev_get h2 hd
  refine ⟨⟨l1, vs, v, h1, e1⟩, fun x H' y => ?_⟩
  obtain ⟨e2, y2⟩ := y
  subst e2
  have e3 := y2 vs h1
  rw [e1] at e3
  cases e3
  exact ⟨Gr.refl, rs, r1⟩
theorem di_rev (hg : Gl X "reversed") (hm : X.mg "reversed" = none) (ha : PE X a (tOf X.K W fa)) (hs : starEach [a] X.env = (false, eval a X.env) :: starEach [] X.env) : PI X tg (.Call (.Name "reversed" p) [a] [] pos) (iOf X.K W (iOn revItD (aCons fa aNil))) :=
  PI.imp (RT.pi_revA hg hm ha hs) fun σ H Rr h => by
    obtain ⟨ι, S, δ, rs, ro, q⟩ := h
    refine ⟨ι, S, δ, rs, ro, ?_⟩
    have q' : Post (JOk X.K) X.K W ι H σ ((fa δ S).bind fun x S1 => ofI (revItD [x] S1) S1) Rr := by
      have e : (iOn revItD (aCons fa aNil)) δ S = (fa δ S).bind fun x S1 => ofI (revItD [x] S1) S1 := by
        unfold iOn aCons aNil
        cases fa δ S <;> rfl
      rw [← e]
      exact q
    refine Post.mono (Post.bind (rel := RD X.K) q') fun v H1 ⟨ι1, S1, x, g1, rs1, rx, q1⟩ => ?_
    cases x with
    | ref k =>
      have q1 : Post (JOk X.K) X.K W ι1 H1 σ (ofI (match S1[k]? with
        | some (.lst ds) => some (ds.reverse, [(k, ds)])
        | _ => none) S1) Rr := q1
      split at q1
      · rename_i ds hk
        obtain ⟨a', us, rfl, h0, h1, h2⟩ := rs1.lst hk rx
        exact ⟨a', us, rfl, .inl ⟨SqL.of h1, q1 _ H1 ι1 Gr.refl rs1 (jok_revL h0 h2.length.symm)⟩⟩
      · exact q1.elim
    | tup ds =>
      obtain ⟨a', us, rfl, t1, l1⟩ := rx.tup
      exact ⟨a', us, rfl, .inr ⟨t1, q1 _ H1 ι1 Gr.refl rs1 (jok_revT t1 l1 rfl)⟩⟩
    | _ => exact q1.elim
end
end DL
set_option Elab.async false
set_option linter.all false
set_option maxRecDepth 100000
/-! DAll: every expression at once. -/
namespace DL
open PySem L2

def ixOf : List Str → Str → Nat → Option Nat
  | [], _, _ => none
  | y :: r, x, i => if y = x then some i else ixOf r x (i + 1)
theorem ixOf_ok {x : Str} : ∀ {N : List Str} {i j : Nat}, ixOf N x i = some j → ∃ k, j = i + k ∧ N[k]? = some x
  | [], _, _, h => by cases h
  | y :: r, i, j, h => by
    unfold ixOf at h
    split at h
    · rename_i e
      cases h
      exact ⟨0, rfl, by simp [e]⟩
    · obtain ⟨k, e1, e2⟩ := ixOf_ok h
      exact ⟨k + 1, by omega, by simpa using e2⟩
def noStar : Expr → Bool
  | .Starred .. => false
  | _ => true
theorem star_cons {e : Expr} {es : List Expr} {env : Env} (h : noStar e = true) : starEach (e :: es) env = (false, eval e env) :: starEach es env := by
  cases e <;> first | rfl | (cases h)
theorem star_any {env : Env} {pos : Pos} : ∀ {es : List Expr}, es.all noStar = true → (backTo pos (starEach es env)).any (·.1) = false
  | [], _ => rfl
  | e :: es, h => by
    rw [List.all_cons, Bool.and_eq_true] at h
    rw [star_cons h.1]
    show (false || (backTo pos (starEach es env)).any (·.1)) = false
    rw [star_any h.2]
    rfl
theorem star_all {env : Env} {pos : Pos} : ∀ {es : List Expr}, es.all noStar = true → (backTo pos (starEach es env)).all (fun x => !x.1) = true
  | [], _ => rfl
  | e :: es, h => by
    rw [List.all_cons, Bool.and_eq_true] at h
    rw [star_cons h.1]
    show (true && (backTo pos (starEach es env)).all (fun x => !x.1)) = true
    rw [star_all h.2]
    rfl

/-! ### methods of built-in types -/
structure Mi where
  ty : String
  id : String
  g : D → List D → SS → Option (D × SS)
def rOfM (K : PySem.W.Frag) (g : D → List D → SS → Option (D × SS)) : V → List V → Hp → VK → Prop := fun x xs H Q => ∃ ι S d ds, RelS K H ι S ∧ RD K H ι d x ∧ RDs K H ι ds xs ∧ PostN K ι H (g d ds S) Q
structure MiOk (name : Str) (m : Mi) : Prop where
  pa : PlainAttrs m.ty
  sl : Slot m.ty name m.id
  ty : typeOf (.builtin m.id) = pure (.type "method_descriptor")
  call : ∀ X : Cx, X.calm = true → X.A.guards = some [] → X.A.units + 64 < cLine → MtR X m.id (rOfM X.K m.g)
def isTy (T : String) (d : D) (S : SS) : Bool := match d with
  | .str _ => T == "str"
  | .ref k => match S[k]? with
    | some (.lst _) => T == "list"
    | some (.dct _) => T == "dict"
    | none => false
  | .rls _ => T == "list"
  | _ => false
theorem isTy_ok {K : PySem.W.Frag} {ι : List Addr} {H : Hp} {S : SS} {T : String} {d : D} {v : V} (s : RelS K H ι S) (r : RD K H ι d v) (h : isTy T d S = true) : tyV K T v H := by
  cases d with
  | str z => rw [r.str]; exact (by simpa [isTy] using h : T = "str")
  | rls ds =>
    obtain ⟨a, vs, rfl, h1, _⟩ := r.rls
    exact .inl ⟨by simpa [isTy] using h, vs, h1.sq⟩
  | ref k =>
    simp only [isTy] at h
    split at h
    · rename_i ds e
      obtain ⟨a, vs, rfl, _, h1, _⟩ := s.lst e r
      exact .inl ⟨by simpa using h, vs, SqL.of h1⟩
    · rename_i ds e
      obtain ⟨a, rfl, q⟩ := r.ref
      obtain ⟨vs, h1, _⟩ := s.at k _ a e q
      exact .inr (.inr (.inl ⟨by simpa using h, .inl ⟨vs, h1⟩⟩))
    · cases h
  | _ => simp [isTy] at h
def eMt (m : Mi) (o : PEx) (a : PAs) : PEx := fun δ S => (o δ S).bind fun x S1 => if isTy m.ty x S1 = true then (a δ S1).bind fun xs S2 => R.ofO (m.g x xs S2) else .bad
/-- only a call of super without arguments is looked at -/
def noSup : Expr → Bool
  | .Call (.Name _ _) [] [] _ => false
  | _ => true
theorem base_of {o : Expr} {m : Str} {env : Env} {w : Sem Value} (h : noSup o = true) : attributeBase o m env w = w := by
  unfold attributeBase
  split
  · cases h
  · rfl

section
variable {X : Cx} {W : WX} {o e : Expr} {es : List Expr} {fo : PEx} {f : PAs} {ap pos : Pos} {m : Str} {mi : Mi}
theorem i_mt {σ : St} {H : Hp} {Q : VK} (h : tOf X.K W (eMt mi fo f) σ H Q) : tBM X.K mi.ty (rOfM X.K mi.g) (tOf X.K W fo) (tOfA X.K W f) σ H Q := by
  obtain ⟨ι, S, δ, rs, ro, q⟩ := h
  refine ⟨ι, S, δ, rs, ro, Post.mono (Post.bind (rel := RD X.K) q) fun v H1 ⟨ι1, S1, x, g1, rs1, rx, q1⟩ => ?_⟩
  split at q1
  · rename_i ht
    refine ⟨isTy_ok rs1 rx ht, ι1, S1, δ, rs1, ro.mono g1, Post.mono (Post.bind (rel := RDs X.K) q1) fun vs H2 ⟨ι2, S2, xs, g2, rs2, rxs, q2⟩ => ?_⟩
    exact ⟨ι2, S2, x, xs, rs2, rx.mono g2, rxs, q2.ofO⟩
  · exact q1.elim
theorem de_mt (M : MiOk m mi) (hc : X.calm = true) (gd : X.A.guards = some []) (hu : X.A.units + 64 < cLine) (ho : PE X o (tOf X.K W fo)) (ha : PA X (e :: es) (tOfA X.K W f)) (hs : (e :: es).all noStar = true) (hn : (e :: es).length < 30) (hp : noSup o = true) (hl : (ap.endLine == pos.line) = true) :
    PE X (.Call (.Attribute o m ap) (e :: es) [] pos) (tOf X.K W (eMt mi fo f)) := by
  have hs2 := hs
  rw [List.all_cons, Bool.and_eq_true] at hs2
  refine PE.imp (pe_bm M.pa M.sl M.ty (M.call X hc gd hu) ho ha (base_of hp) ?_ hl (star_cons hs2.1) (star_any hs2.2)) fun _ _ _ h => i_mt h
  rw [star_all hs]
  show (true && true && decide ((e :: es).length + 0 + 0 < 30)) = true
  simpa using hn
theorem de_mt0 (M : MiOk m mi) (hc : X.calm = true) (gd : X.A.guards = some []) (hu : X.A.units + 64 < cLine) (ho : PE X o (tOf X.K W fo)) (hp : noSup o = true) (hl : (ap.endLine == pos.line) = true) :
    PE X (.Call (.Attribute o m ap) [] [] pos) (tOf X.K W (eMt mi fo aNil)) := by
  refine PE.imp (pe_bm0 M.pa M.sl M.ty (M.call X hc gd hu) ho (base_of hp) hl) fun σ H Q h => ?_
  obtain ⟨ι, S, δ, rs, ro, q⟩ := i_mt h
  refine ⟨ι, S, δ, rs, ro, q.mono fun v H1 ⟨ty, ι1, S1, δ1, rs1, ro1, q1⟩ => ⟨ty, q1 [] H1 ι1 Gr.refl rs1 RDs.nil⟩⟩
end

/-! ### all forms -/
def glb (E : SE) (x : Str) : Option GV := match E.sc.names.lookup x with
  | some .globalImplicit => E.G x
  | _ => none
def dName (E : SE) (x : Str) : PEx := match E.sc.names.lookup x with
  | some .globalImplicit => (match E.G x with
    | some (.val d) => eC d
    | some (.bi b) => (match b.v with
      | .type T => eC (.ty T)
      | _ => eBad)
    | _ => eBad)
  | some .local | some .cell | some .free => (match ixOf E.N x 0 with
    | some i => if (x == ("__debug__" : Str) || x == ("__classdict__" : Str)) = true then eBad else eVar i
    | none => eBad)
  | _ => eBad
def dConst : Const → PEx
  | .none => eC .non
  | .bool b => eC (.bl b)
  | .int i => eC (.int i)
  | .str x => eC (.str x)
  | _ => eBad
/-- what may be stored to -/
def slotOf (E : SE) (x : Str) : Option Nat := match E.sc.names.lookup x with
  | some .local => ixOf E.N x 0
  | some .cell => if E.fn x = true then ixOf E.N x 0 else none
  | _ => none
def slotsOf (E : SE) : List Expr → Option (List Nat)
  | [] => some []
  | .Name x _ :: r => match slotOf E x, slotsOf E r with
    | some i, some is => some (i :: is)
    | _, _ => none
  | _ => none
def dCT (E : SE) : Expr → Option CT
  | .Name x _ => (slotOf E x).map .one
  | .Tuple es _ _ => (slotsOf E es).map .many
  | _ => none
def namesOf : Expr → List Str
  | .Name x _ => [x]
  | .Tuple es _ _ => es.filterMap fun | .Name x _ => some x | _ => none
  | _ => []
abbrev EV := PEx × PTs'
def mkV (a : PEx) : EV := (a, tTru a)
def mkB (a : PEx) : EV := (a, tVal a)
def foldV (op : BoolOp) : List EV → PEx
  | [] => eBad
  | [f] => f.1
  | f :: r => match op with
    | .And => eAnd f.1 (foldV op r)
    | .Or => eOr f.1 (foldV op r)
def foldT (op : BoolOp) : List EV → PTs'
  | [] => tBad
  | [f] => f.2
  | f :: r => match op with
    | .And => tAnd' f.2 (foldT op r)
    | .Or => tOr' f.2 (foldT op r)
def argsOf : List EV → PAs
  | [] => aNil
  | f :: r => aCons f.1 (argsOf r)
def cmpF (a : EV) (ops : List CmpOp) (cs : List Expr) (fs : List EV) : EV := match ops, cs, fs with
  | [op], [b], [f] => if behindInMarks op b = true then (eBad, tBad) else mkB (eOp2 (cmpD op) a.1 f.1)
  | [op, op'], [b, c], [f, g] => if lastMarks [op, op'] [b, c] = true then (eBad, tBad) else mkB (eChain (cmpD op) (cmpD op') a.1 f.1 g.1)
  | _, _, _ => (eBad, tBad)
def callF (E : SE) (M : Str → Option Mi) (func : Expr) (args : List Expr) (kws : List Keyword) (pos : Pos) (fo : PEx) (fs : List EV) : PEx := match kws with
  | [] => match func with
    | .Name x _ => match glb E x with
      | some (.bi b) => (match args with
        | [] => eBad
        | _ => if args.all noStar = true then eCB b.g (argsOf fs) else eBad)
      | some (.fn f n) => if args.all noStar = true then eCall f n (argsOf fs) else eBad
      | some (.fnd f n d) => (match args with
        | [] => eBad
        | e :: es => if (e :: es).all noStar = true then (if (e :: es).length = n then eCall f n (argsOf fs) else if (e :: es).length + 1 = n then eCall (fun ds S => f (ds ++ [d]) S) (e :: es).length (argsOf fs) else eBad) else eBad)
      | _ => eBad
    | .Attribute o m ap => match M m with
      | some mi => if args.all noStar = true ∧ args.length < 30 ∧ noSup o = true ∧ (ap.endLine == pos.line) = true then eMt mi fo (argsOf fs) else eBad
      | none => eBad
    | _ => eBad
  | _ => eBad
/-- tuple(range(..)), list(range(..)), tuple(reversed(..)) -/
noncomputable def callX (E : SE) (M : Str → Option Mi) (func : Expr) (args : List Expr) (kws : List Keyword) (pos : Pos) (fo : PEx) (fs gs : List EV) : PEx := match func, args, kws with
  | .Name x _, [.Call (.Name y _) as [] _], [] => match glb E y with
    | some .it => (match glb E x with
      | some (.bi _) => if as.all noStar = true then
          (if x = "tuple" ∧ y = "range" then (match as, gs with
            | [_], [f] => eOp1 tupRg1D f.1
            | [_, _], [f, g] => eOp2 tupRg2D f.1 g.1
            | _, _ => eBad)
          else if x = "list" ∧ y = "range" then (match as, gs with
            | [_], [f] => eOp1 lstRg1D f.1
            | [_, _], [f, g] => eOp2 lstRg2D f.1 g.1
            | _, _ => eBad)
          else if x = "tuple" ∧ y = "reversed" then (match as, gs with
            | [_], [f] => eOp1 tupRevD f.1
            | _, _ => eBad)
          else eBad) else eBad
      | _ => eBad)
    | _ => callF E M func args kws pos fo fs
  | _, _, _ => callF E M func args kws pos fo fs
def plainIx : Expr → Bool
  | .Slice .. => false
  | _ => true
def iterF (E : SE) (tg iter : Expr) (fs : List EV) (fv : PEx) : PIt := match iter with
  | .Call (.Name x _) args [] _ => match glb E x with
    | some .it => if args.all noStar = true then
        (if x = "range" then (match args with
          | [_] => iOn rng1D (argsOf fs)
          | [_, _] => iOn rng2D (argsOf fs)
          | [_, _, _] => iOn rng3D (argsOf fs)
          | _ => iBad)
        else if x = "reversed" then (match args with
          | [_] => iOn revItD (argsOf fs)
          | _ => iBad)
        else match tg with
          | .Tuple .. => if x = "enumerate" then (match args with
              | [_] => iOn enuD (argsOf fs)
              | _ => iBad)
            else if x = "zip" then (match args with
              | [_, _] => iOn zpD (argsOf fs)
              | _ => iBad)
            else iBad
          | _ => iBad) else iBad
    | _ => iVal fv
  | _ => iVal fv
def noSet : Expr → Bool
  | .Set .. => false
  | _ => true
/-- the names in a comprehension's block -/
def blkSE (E : SE) (scope : Scope) : SE := { E with sc := relS scope E.sc, fn := fun x => scope.names.lookup x == some .cell }
def ownOf (E : SE) : List Str → Option (List (Str × Nat))
  | [] => some []
  | x :: r => match ixOf E.N x 0, ownOf E r with
    | some i, some l => some ((x, i) :: l)
    | _, _ => none
def tYes' : PTs' := fun _ S => .ok true S
def testsF : List EV → Option PTs'
  | [] => some tYes'
  | [f] => some f.2
  | _ => none
mutual
noncomputable def dX (M : Str → Option Mi) : Expr → SE → EV
  | .Constant c _ _, _ => mkV (dConst c)
  | .Name x _, E => mkV (dName E x)
  | .BinOp a op b _, E => mkV (eOp2 (binD op) (dX M a E).1 (dX M b E).1)
  | .UnaryOp op a _, E => match op with
    | .USub => mkV (eOp1 negD (dX M a E).1)
    | .Not => (eOp1 notD (dX M a E).1, tNot' (dX M a E).2)
    | _ => (eBad, tBad)
  | .BoolOp op es _, E => (foldV op (dL M es E), foldT op (dL M es E))
  | .IfExp c a b _, E => (eIf (dX M c E).2 (dX M a E).1 (dX M b E).1, tIf' (dX M c E).2 (dX M a E).2 (dX M b E).2)
  | .Compare a ops cs _, E => cmpF (dX M a E) ops cs (dL M cs E)
  | .Tuple es _ _, E => mkV (if es.all noStar = true then eTup (argsOf (dL M es E)) else eBad)
  | .List es _, E => mkV (if es.all noStar = true then eLst (argsOf (dL M es E)) else eBad)
  | .Call func args kws pos, E => mkV (callX E M func args kws pos (dRecv M func E) (dL M args E) (dA1 M args E))
  | .Subscript a s _, E => mkV (match dSl M s E with
    | some (lo, hi) => eSl (dX M a E).1 lo hi
    | none => if plainIx s = true then eOp2 ixD (dX M a E).1 (dX M s E).1 else if isRev s = true then eOp1 revD (dX M a E).1 else if isRev2 s = true then eOp1 rev2D (dX M a E).1 else eBad)
  | .ListComp elt gens scope _, E => mkV (match dGen M gens E (blkSE E scope) with
    | some (tg, iter, it, ct, t) => (match ownOf E (namesOf tg) with
      | some own => if blkC E.N E.sc scope own = true ∧ (∀ i ∈ ct.slots, i ∈ own.map (·.2)) ∧ noSet iter = true then eLc it ct (own.map (·.2)) t (dX M elt (blkSE E scope)).1 else eBad
      | none => eBad)
    | none => eBad)
  | _, _ => (eBad, tBad)
noncomputable def dL (M : Str → Option Mi) : List Expr → SE → List EV
  | [], _ => []
  | e :: es, E => dX M e E :: dL M es E
noncomputable def dA1 (M : Str → Option Mi) : List Expr → SE → List EV
  | [], _ => []
  | e :: _, E => dArgs M e E
noncomputable def dRecv (M : Str → Option Mi) : Expr → SE → PEx
  | .Attribute o _ _, E => (dX M o E).1
  | _, _ => eBad
noncomputable def dSl (M : Str → Option Mi) : Expr → SE → Option (PO' × PO')
  | .Slice lo hi st _, E => match st with
    | none => some (dO M lo E, dO M hi E)
    | some _ => none
  | _, _ => none
noncomputable def dO (M : Str → Option Mi) : Option Expr → SE → PO'
  | none, _ => oNone
  | some e, E => oSome (dX M e E).1
/-- a for's head: its own iterator -/
noncomputable def dArgs (M : Str → Option Mi) : Expr → SE → List EV
  | .Call _ args _ _, E => dL M args E
  | _, _ => []
noncomputable def dGen (M : Str → Option Mi) : List Comprehension → SE → SE → Option (Expr × Expr × PIt × CT × PTs')
  | [g], E, E' => dG1 M g E E'
  | _, _, _ => none
noncomputable def dG1 (M : Str → Option Mi) : Comprehension → SE → SE → Option (Expr × Expr × PIt × CT × PTs')
  | ⟨tg, iter, ifs, a⟩, E, E' => if a = 0 then (match dCT E' tg, testsF (dL M ifs E') with
    | some ct, some t => some (tg, iter, iterF E tg iter (dArgs M iter E) (dX M iter E).1, ct, t)
    | _, _ => none) else none
end
noncomputable def dI (M : Str → Option Mi) (tg iter : Expr) (E : SE) : PIt := iterF E tg iter (dArgs M iter E) (dX M iter E).1
end DL
set_option Elab.async false
set_option linter.all false
set_option maxRecDepth 100000
/-! DSound: the machine agrees with every expression's tree. -/
namespace DL
open PySem L2

def AllE (X : Cx) (W : WX) : List Expr → List EV → Prop
  | [], [] => True
  | e :: es, f :: fs => PE X e (tOf X.K W f.1) ∧ PT X e (tOfT X.K W f.2) ∧ AllE X W es fs
  | _, _ => False
section
variable {X : Cx} {W : WX} {E : SE}
theorem Ctx.kind (C : Ctx X W E) (x : Str) : X.env.kindOf x = E.sc.names.lookup x := by
  unfold Env.kindOf
  rw [C.sc]
theorem dName_ok (C : Ctx X W E) {x : Str} {p : Pos} : PE X (.Name x p) (tOf X.K W (dName E x)) := by
  have hk := C.kind x
  have vis : ∀ i, ixOf E.N x 0 = some i → Vis X.env.scope x → PE X (.Name x p) (tOf X.K W (if (x == ("__debug__" : Str) || x == ("__classdict__" : Str)) = true then eBad else eVar i)) := fun i hi hv => by
    split
    · exact pe_bad
    · rename_i hn
      simp only [Bool.or_eq_true, not_or, Bool.not_eq_true] at hn
      obtain ⟨k, e1, e2⟩ := ixOf_ok hi
      have : i = k := by omega
      subst this
      exact de_var (by rw [C.n]; exact e2) hv hn.1 hn.2
  unfold dName
  split
  · rename_i hl
    have hg : Gl X x := hk.trans hl
    split
    · rename_i d hd
      obtain ⟨h1, u, v, h2, h3, h4⟩ := C.g x _ hd
      exact de_c (pe_glob hg h2 h3 h1) h4
    · rename_i b hb
      obtain ⟨rfl, h2, h3⟩ := C.g x _ hb
      split
      · rename_i T hT
        have hb := h3.boot
        rw [hT] at hb
        exact de_c (pe_bltn (v := .ty T) hg h2 hb rfl h3.nm h3.nd) fun _ _ => RD.mty
      · exact pe_bad
    · exact pe_bad
  · rename_i hl
    split
    · rename_i i hi
      exact vis i hi (.inl (by rw [C.sc]; exact hl))
    · exact pe_bad
  · rename_i hl
    split
    · rename_i i hi
      exact vis i hi (.inr (.inl (by rw [C.sc]; exact hl)))
    · exact pe_bad
  · rename_i hl
    split
    · rename_i i hi
      exact vis i hi (.inr (.inr (by rw [C.sc]; exact hl)))
    · exact pe_bad
  · exact pe_bad
theorem dConst_ok {c : Const} {k : Nat} {p : Pos} : PE X (.Constant c k p) (tOf X.K W (dConst c)) := by
  cases c with
  | none => exact de_c pe_non fun _ _ => RD.mnon
  | bool b => exact de_c pe_bl fun _ _ => RD.mbl
  | int b => exact de_c pe_int fun _ _ => RD.mint
  | str b => exact de_c pe_str fun _ _ => RD.mstr
  | _ => exact pe_bad
theorem foldV_ok {op : BoolOp} {p : Pos} : ∀ {es : List Expr} {fs : List EV}, AllE X W es fs → PE X (.BoolOp op es p) (tOf X.K W (foldV op fs))
  | [], [], _ => pe_bad
  | [e], [f], h => pe_one h.1
  | e :: e2 :: es, f :: f2 :: fs, h => by
    have ih := foldV_ok (op := op) (p := p) h.2.2
    cases op with
    | And => exact de_and h.1 ih
    | Or => exact de_or h.1 ih
  | [], _ :: _, h => h.elim
  | _ :: _, [], h => h.elim
  | [_], _ :: _ :: _, h => h.2.2.elim
  | _ :: _ :: _, [_], h => h.2.2.elim
theorem foldW_ok {op : BoolOp} {p : Pos} : ∀ {es : List Expr} {fs : List EV}, AllE X W es fs → PW X (.BoolOp op es p) (tOfT X.K W (foldT op fs))
  | [], [], _ => pw_bad
  | [e], [f], h => by
    cases op with
    | And => exact pw_and1 h.2.1
    | Or => exact pw_or1 h.2.1
  | e :: e2 :: es, f :: f2 :: fs, h => by
    have ih := foldW_ok (op := op) (p := p) h.2.2
    cases op with
    | And => exact dw_and h.2.1 ih
    | Or => exact dw_or h.2.1 ih
  | [], _ :: _, h => h.elim
  | _ :: _, [], h => h.elim
  | [_], _ :: _ :: _, h => h.2.2.elim
  | _ :: _ :: _, [_], h => h.2.2.elim
theorem argsOf_ok : ∀ {es : List Expr} {fs : List EV}, AllE X W es fs → es.all noStar = true → PA X es (tOfA X.K W (argsOf fs))
  | [], [], _, _ => da_nil
  | e :: es, f :: fs, h, hs => by
    rw [List.all_cons, Bool.and_eq_true] at hs
    exact da_cons h.1 (argsOf_ok h.2.2 hs.2) (star_cons hs.1)
  | [], _ :: _, h, _ => h.elim
  | _ :: _, [], h, _ => h.elim
abbrev EOk (X : Cx) (W : WX) (e : Expr) (f : EV) : Prop := PE X e (tOf X.K W f.1) ∧ PT X e (tOfT X.K W f.2)
theorem ok_bad {e : Expr} : EOk X W e (eBad, tBad) := ⟨pe_bad, pt_bad⟩
theorem cmpF_ok (C : Ctx X W E) {a : Expr} {fa : EV} {ops : List CmpOp} {cs : List Expr} {fs : List EV} {p : Pos} (ha : PE X a (tOf X.K W fa.1)) (hc : AllE X W cs fs) : EOk X W (.Compare a ops cs p) (cmpF fa ops cs fs) := by
  unfold cmpF
  split
  · rename_i op b f
    split
    · exact ok_bad
    · rename_i hm
      have hm : behindInMarks op b = false := by simpa using hm
      exact ⟨de_cmp C.un ha hc.1 hm, dt_cmp C.un ha hc.1 hm⟩
  · rename_i op op' b c f g
    split
    · exact ok_bad
    · rename_i hm
      have hm : lastMarks [op, op'] [b, c] = false := by simpa using hm
      exact ⟨de_chain C.un ha hc.1 hc.2.2.1 hm, dt_chain C.un ha hc.1 hc.2.2.1 hm⟩
  · exact ok_bad
theorem glb_ok (C : Ctx X W E) {x : Str} {g : GV} (h : glb E x = some g) : Gl X x ∧ GOk X x g := by
  unfold glb at h
  split at h
  · rename_i hl
    exact ⟨(C.kind x).trans hl, C.g x g h⟩
  · cases h
theorem callF_ok (C : Ctx X W E) {M : Str → Option Mi} (hM : ∀ n mi, M n = some mi → MiOk n mi) {func : Expr} {args : List Expr} {kws : List Keyword} {pos : Pos} {fo : PEx} {fs : List EV}
    (ho : ∀ o m ap, func = .Attribute o m ap → PE X o (tOf X.K W fo)) (ha : AllE X W args fs) : PE X (.Call func args kws pos) (tOf X.K W (callF E M func args kws pos fo fs)) := by
  unfold callF
  split
  · split
    · rename_i x p
      split
      · rename_i b hb
        obtain ⟨hg, h1, h2, h3⟩ := glb_ok C hb
        split
        · exact pe_bad
        · split
          · rename_i hne hs
            cases args with
            | nil => exact absurd rfl hne
            | cons e es =>
              have hs2 := hs
              rw [List.all_cons, Bool.and_eq_true] at hs2
              exact de_cb h3 h1 h2 hg C.calm C.gd C.un (argsOf_ok ha hs) (star_cons hs2.1) (star_any hs2.2)
          · exact pe_bad
      · rename_i f n hb
        obtain ⟨hg, hdb, fa, fd, ps, k, h1, h2, h3, rfl, h5, h6⟩ := glb_ok C hb
        split
        · rename_i hs
          cases args with
          | nil =>
            cases fs with
            | nil =>
              cases ps with
              | nil => exact de_call0 h3 h5 C.gd h6 C.tk hg h1 h2 hdb
              | cons y ps =>
                refine ⟨fun _ _ _ _ _ _ ⟨ι, S, δ, rs, ro, q⟩ => ?_⟩
                simp [eCall, argsOf, aNil, R.bind] at q
                exact q.elim
            | cons _ _ => exact ha.elim
          | cons e es =>
            have hs2 := hs
            rw [List.all_cons, Bool.and_eq_true] at hs2
            exact de_call h3 h5 C.gd h6 C.tk hg h1 h2 hdb (argsOf_ok ha hs) (star_cons hs2.1) (star_any hs2.2)
        · exact pe_bad
      · rename_i f n d hb
        obtain ⟨hg, hdb, fa, fd, ps, k, h1, h2, h3, rfl, h5, h6, dv, v, h7, h8, h9⟩ := glb_ok C hb
        split
        · exact pe_bad
        · split
          · rename_i hs
            have hs2 := hs
            rw [List.all_cons, Bool.and_eq_true] at hs2
            split
            · exact de_call h3 h5 C.gd h6 C.tk hg h1 h2 hdb (argsOf_ok ha hs) (star_cons hs2.1) (star_any hs2.2)
            · split
              · rename_i hl
                exact de_calld h3 h5 C.gd h7 h8 h9 hl C.tk hg h1 h2 hdb (argsOf_ok ha hs) (star_cons hs2.1) (star_any hs2.2)
              · exact pe_bad
          · exact pe_bad
      · exact pe_bad
    · rename_i o m ap
      split
      · rename_i mi hm
        split
        · rename_i hc
          obtain ⟨c1, c2, c3, c4⟩ := hc
          cases args with
          | nil =>
            cases fs with
            | nil => exact de_mt0 (hM _ _ hm) C.calm C.gd C.un (ho _ _ _ rfl) c3 c4
            | cons _ _ => exact ha.elim
          | cons e es => exact de_mt (hM _ _ hm) C.calm C.gd C.un (ho _ _ _ rfl) (argsOf_ok ha c1) c1 c2 c3 c4
        · exact pe_bad
      · exact pe_bad
    · exact pe_bad
  · exact pe_bad
theorem callX_ok (C : Ctx X W E) {M : Str → Option Mi} (hM : ∀ n mi, M n = some mi → MiOk n mi) {func : Expr} {args : List Expr} {kws : List Keyword} {pos : Pos} {fo : PEx} {fs gs : List EV}
    (ho : ∀ o m ap, func = .Attribute o m ap → PE X o (tOf X.K W fo)) (ha : AllE X W args fs) (hg1 : ∀ f as kws p r, args = .Call f as kws p :: r → AllE X W as gs) : PE X (.Call func args kws pos) (tOf X.K W (callX E M func args kws pos fo fs gs)) := by
  unfold callX
  split
  · rename_i x p y p2 as pos2
    have hga := hg1 _ _ _ _ _ rfl
    split
    · rename_i hy
      obtain ⟨g2, m2⟩ := glb_ok C hy
      have m2 : X.mg y = none := m2
      split
      · rename_i b hb
        obtain ⟨g1, e1, m1, _⟩ := glb_ok C hb
        split
        · rename_i hs
          split
          · rename_i hx
            obtain ⟨rfl, rfl⟩ := hx
            split
            · simp only [List.all_cons, List.all_nil, Bool.and_true] at hs
              exact de_tupRg1 C.calm g1 m1 g2 m2 hga.1 (star_cons hs)
            · simp only [List.all_cons, List.all_nil, Bool.and_true, Bool.and_eq_true] at hs
              exact de_tupRg2 C.calm g1 m1 g2 m2 hga.1 hga.2.2.1 (star_cons hs.1) (star_cons hs.2) (star_any (by simp [hs.2]))
            · exact pe_bad
          · split
            · rename_i hx
              obtain ⟨rfl, rfl⟩ := hx
              split
              · simp only [List.all_cons, List.all_nil, Bool.and_true] at hs
                exact de_lstRg1 C.calm g1 m1 g2 m2 hga.1 (star_cons hs)
              · simp only [List.all_cons, List.all_nil, Bool.and_true, Bool.and_eq_true] at hs
                exact de_lstRg2 C.calm g1 m1 g2 m2 hga.1 hga.2.2.1 (star_cons hs.1) (star_cons hs.2) (star_any (by simp [hs.2]))
              · exact pe_bad
            · split
              · rename_i hx
                obtain ⟨rfl, rfl⟩ := hx
                split
                · simp only [List.all_cons, List.all_nil, Bool.and_true] at hs
                  exact de_tupRev C.calm g1 m1 g2 m2 hga.1 (star_cons hs)
                · exact pe_bad
              · exact pe_bad
        · exact pe_bad
      · exact pe_bad
    · exact callF_ok C hM ho ha
  · exact callF_ok C hM ho ha
theorem iterF_ok (C : Ctx X W E) {tg iter : Expr} {fs : List EV} {fv : PEx} (hv : PE X iter (tOf X.K W fv)) (ha : ∀ f args kws p, iter = .Call f args kws p → AllE X W args fs) : PI X tg iter (iOf X.K W (iterF E tg iter fs fv)) := by
  unfold iterF
  split
  · rename_i x p args pos
    replace ha := ha _ _ _ _ rfl
    split
    · rename_i hb
      obtain ⟨hg, hm⟩ := glb_ok C hb
      have hm : X.mg x = none := hm
      split
      · rename_i hs
        have hp := argsOf_ok ha hs
        split
        · rename_i hx
          subst hx
          split
          · rename_i a
            simp only [List.all_cons, List.all_nil, Bool.and_true] at hs
            exact di_rng1 hg hm hp (star_cons hs)
          · rename_i a b
            simp only [List.all_cons, List.all_nil, Bool.and_true, Bool.and_eq_true] at hs
            exact di_rng2 hg hm hp (by rw [star_cons hs.1, star_cons hs.2]; rfl) (by rw [star_cons hs.2]; rfl)
          · rename_i a b c
            simp only [List.all_cons, List.all_nil, Bool.and_true, Bool.and_eq_true] at hs
            exact di_rng3 hg hm hp (star_cons hs.1) (star_any (by simp [hs.2]))
          · exact pi_bad
        split
        · rename_i hx
          subst hx
          split
          · rename_i a
            simp only [List.all_cons, List.all_nil, Bool.and_true] at hs
            match fs, ha with
            | [f], ha => exact di_rev hg hm ha.1 (star_cons hs)
          · exact pi_bad
        · split
          · split
            · rename_i hx
              subst hx
              split
              · simp only [List.all_cons, List.all_nil, Bool.and_true] at hs
                exact di_enum hg hm hp (star_cons hs)
              · exact pi_bad
            · split
              · rename_i hx
                subst hx
                split
                · simp only [List.all_cons, List.all_nil, Bool.and_true, Bool.and_eq_true] at hs
                  exact di_zip hg hm hp (star_cons hs.1) (star_any (by simp [hs.2]))
                · exact pi_bad
              · exact pi_bad
          · exact pi_bad
      · exact pi_bad
    · exact di_val hv
  · exact di_val hv
theorem ctx_blk (C : Ctx X W E) (s : Shared) (H : Hp) (scope : Scope) (cl : List (Str × Addr)) (Cd : Addr) (fp : List Addr) : Ctx (X.blk s H scope (compEnvC scope cl Cd X.env) fp) W0 (blkSE E scope) where
  n := C.n
  sc := by
    show relabel scope X.env = relS scope E.sc
    rw [← C.sc]
    rfl
  nd := C.nd
  calm := C.calm
  gd := C.gd
  un := C.un
  tk := fun u s' ⟨_, _, _, _, _, _, _, _, _, _, _, _, _, _, _, _, w⟩ => w.elim
  fn := fun x h => h
  g := fun x v h => by
    have := C.g x v h
    cases v <;> exact this
theorem slotOf_ok (C : Ctx X W E) {x : Str} {i : Nat} {p : Pos} (h : slotOf E x = some i) : PG X (.Name x p) (gName i) := by
  unfold slotOf at h
  split at h
  · rename_i hl
    obtain ⟨k, e1, e2⟩ := ixOf_ok h
    have : i = k := by omega
    subst this
    have hl' : X.env.scope.names.lookup x = some .local := by rw [C.sc]; exact hl
    exact pg_name (by rw [C.n]; exact C.nd) (by rw [C.n]; exact e2) (.inl hl') (.inr hl')
  · rename_i hl
    split at h
    · rename_i hf
      obtain ⟨k, e1, e2⟩ := ixOf_ok h
      have : i = k := by omega
      subst this
      have hl' : X.env.scope.names.lookup x = some .cell := by rw [C.sc]; exact hl
      exact pg_name (by rw [C.n]; exact C.nd) (by rw [C.n]; exact e2) (.inr hl') (.inl (C.fn x hf))
    · cases h
  · cases h
theorem slotsOf_ok (C : Ctx X W E) : ∀ {es : List Expr} {is : List Nat}, slotsOf E es = some is → PGs X es (gNs is) ∧ (assignEach es X.env).length = is.length ∧ (assignEach es X.env).findIdx? (·.1) = none
  | [], is, h => by cases h; exact ⟨pgs_nil, rfl, rfl⟩
  | e :: es, is, h => by
    cases e with
    | Name x p =>
      simp only [slotsOf] at h
      split at h
      · rename_i i is' h1 h2
        cases h
        obtain ⟨a, b, c⟩ := slotsOf_ok C h2
        have hs : assignEach (.Name x p :: es) X.env = (false, assign (.Name x p) X.env) :: assignEach es X.env := rfl
        refine ⟨pgs_cons (slotOf_ok C h1) a (by rw [hs]; rfl), by rw [hs, List.length_cons, b]; rfl, ?_⟩
        rw [hs, List.findIdx?_cons, c]
        rfl
      · cases h
    | _ => cases h
theorem dCT_ok (C : Ctx X W E) {tg : Expr} {ct : CT} (h : dCT E tg = some ct) : PG X tg (gC X.K ct) := by
  cases tg with
  | Name x p =>
    simp only [dCT, Option.map_eq_some_iff] at h
    obtain ⟨i, h1, rfl⟩ := h
    exact slotOf_ok C h1
  | Tuple es k p =>
    simp only [dCT, Option.map_eq_some_iff] at h
    obtain ⟨is, h1, rfl⟩ := h
    obtain ⟨a, b, c⟩ := slotsOf_ok C h1
    exact pg_tup C.calm a b c
  | _ => cases h
theorem fold_set {e : Expr} {env : Env} (h : noSet e = true) (x : Value) : foldedSetIterable e env x = pure x := by
  cases e <;> first | rfl | (cases h)
theorem pt_ifexp {c a b : Expr} {t ta tb : PTs'} {p : Pos} (hc : PT X c (tOfT X.K W t)) (ha : PT X a (tOfT X.K W ta)) (hb : PT X b (tOfT X.K W tb)) : PT X (.IfExp c a b p) (tOfT X.K W (tIf' t ta tb)) := by
  refine ⟨fun pins s σ H Q I ⟨ι, S, δ, rs, ro, q⟩ => ?_⟩
  show wpAny (model X.prog X.w) X.A (do
    if ← isTrue c X.env (eval c X.env) then isTrue a X.env (eval a X.env) else isTrue b X.env (eval b X.env)) _ _ s
  refine wpAny_bind (thn (hc.run pins s σ H _ I ⟨ι, S, δ, rs, ro, Post.bind (rel := rB) q⟩) fun k s1 ⟨H1, I1, ι1, S1, k', g1, rs1, e, q1⟩ => ?_)
  have e : k' = k := e
  subst e
  cases k' with
  | true => exact ha.run pins s1 σ H1 Q I1 ⟨ι1, S1, δ, rs1, ro.mono g1, q1⟩
  | false => exact hb.run pins s1 σ H1 Q I1 ⟨ι1, S1, δ, rs1, ro.mono g1, q1⟩
theorem testsF_ok : ∀ {es : List Expr} {fs : List EV} {t : PTs'}, AllE X W es fs → testsF fs = some t → PTs X es (tOfT X.K W t)
  | [], [], t, _, h => by
    cases h
    exact ⟨fun pins s σ H Q I ⟨ι, S, δ, rs, ro, q⟩ => pts_nil.run pins s σ H Q I (q true H ι Gr.refl rs rfl)⟩
  | [e], [f], t, ha, h => by
    cases h
    exact pts_one ha.2.1
  | [], _ :: _, _, ha, _ => ha.elim
  | _ :: _, [], _, ha, _ => ha.elim
  | [_], _ :: _ :: _, _, ha, _ => ha.2.2.elim
  | _ :: _ :: _, [_], _, ha, _ => ha.2.2.elim
  | _ :: _ :: _, _ :: _ :: _, _, _, h => by cases h
theorem plain_ix {e : Expr} (h : plainIx e = true) : PlainIx e := by
  cases e <;> first | (intro _ _; rfl) | (cases h)
theorem ownOf_fst : ∀ {l : List Str} {own : List (Str × Nat)}, ownOf E l = some own → True := fun _ => trivial
end
abbrev MOk (M : Str → Option Mi) : Prop := ∀ n mi, M n = some mi → MiOk n mi
theorem ok_mkV {X : Cx} {W : WX} {e : Expr} {f : PEx} (h : PE X e (tOf X.K W f)) (he : ∀ whole, isTrue e X.env whole = (do let v ← whole; standAt e.pos; holding [v] (truthy v))) : EOk X W e (mkV f) := ⟨h, dt_truth h he⟩
mutual
theorem dX_ok {M : Str → Option Mi} (hM : MOk M) : ∀ (e : Expr) (E : SE) (X : Cx) (W : WX), Ctx X W E → EOk X W e (dX M e E)
  | .Constant c _ _, E, X, W, C => ok_mkV dConst_ok fun _ => rfl
  | .Name x _, E, X, W, C => ok_mkV (dName_ok C) fun _ => rfl
  | .BinOp a op b _, E, X, W, C => ok_mkV (de_bin (dX_ok hM a E X W C).1 (dX_ok hM b E X W C).1) fun _ => rfl
  | .UnaryOp op a p, E, X, W, C => by
    have ih := dX_ok hM a E X W C
    cases op with
    | USub => exact ok_mkV (de_neg ih.1) fun _ => rfl
    | Not => exact ⟨de_not ih.1, dt_not ih.2⟩
    | _ => exact ok_bad
  | .BoolOp op es p, E, X, W, C => ⟨foldV_ok (dL_ok hM es E X W C), (foldW_ok (dL_ok hM es E X W C)).pt⟩
  | .IfExp c a b _, E, X, W, C => by
    have h1 := dX_ok hM c E X W C
    have h2 := dX_ok hM a E X W C
    have h3 := dX_ok hM b E X W C
    exact ⟨de_if h1.2 h2.1 h3.1, pt_ifexp h1.2 h2.2 h3.2⟩
  | .Compare a ops cs _, E, X, W, C => cmpF_ok C (dX_ok hM a E X W C).1 (dL_ok hM cs E X W C)
  | .Tuple es k p, E, X, W, C => by
    have ih := dL_ok hM es E X W C
    refine ok_mkV ?_ fun _ => rfl
    split
    · rename_i hs
      exact de_tup (argsOf_ok ih hs)
    · exact pe_bad
  | .List es p, E, X, W, C => by
    have ih := dL_ok hM es E X W C
    refine ok_mkV ?_ fun _ => rfl
    split
    · rename_i hs
      exact de_lst (argsOf_ok ih hs)
    · exact pe_bad
  | .Call func args kws pos, E, X, W, C => by
    have h1 := dRecv_ok hM func E X W C
    have h2 := dL_ok hM args E X W C
    have h3 := dA1_ok hM args E X W C
    exact ok_mkV (callX_ok C hM h1 h2 h3) fun _ => rfl
  | .Subscript a s _, E, X, W, C => by
    have h1 := dX_ok hM a E X W C
    have h2 := dX_ok hM s E X W C
    have h3 := dSl_ok hM s E X W C
    refine ok_mkV ?_ fun _ => rfl
    cases hs : dSl M s E with
    | none =>
      dsimp only
      split
      · rename_i hp
        exact de_ix h1.1 h2.1 (plain_ix hp)
      · split
        · rename_i hr
          exact de_rev hr h1.1
        · split
          · rename_i hr
            exact de_rev2 hr h1.1
          · exact pe_bad
    | some f =>
      obtain ⟨fl, fh⟩ := f
      obtain ⟨lo, hi, p, rfl, q1, q2⟩ := h3 fl fh hs
      exact de_sl h1.1 q1 q2
  | .ListComp elt gens scope pos, E, X, W, C => by
    have h1 := dGen_ok hM gens E (blkSE E scope)
    have h2 : ∀ X' W', Ctx X' W' (blkSE E scope) → EOk X' W' elt (dX M elt (blkSE E scope)) := fun X' W' C' => dX_ok hM elt (blkSE E scope) X' W' C'
    refine ok_mkV ?_ fun _ => rfl
    cases hg : dGen M gens E (blkSE E scope) with
    | none => exact pe_bad
    | some f =>
      obtain ⟨tg, iter, it, ct, t⟩ := f
      obtain ⟨ifs, rfl, q1, q2, q3⟩ := h1 tg iter it ct t hg
      dsimp only
      split
      · rename_i own ho
        split
        · rename_i hc
          obtain ⟨c1, c2, c3⟩ := hc
          refine PE.imp (pe_lc (own := own) (g := gC X.K ct) (tt := tOfT X.K W0 t) (te := tOf X.K W0 (dX M elt (blkSE E scope)).1) C.calm (by rw [C.n]; exact C.nd) (q2 X W C)
            (blkOk_by (by rw [C.n, C.sc]; exact c1)) (fun s H Cd cl fp => ?_) (fun s H Cd cl fp => ?_) (fun s H Cd cl fp => ?_) (fun x => fold_set c3 x)) fun _ _ _ h => i_lc c2 h
          · exact dCT_ok (ctx_blk C s H scope cl Cd fp) q1
          · exact q3 _ _ (ctx_blk C s H scope cl Cd fp)
          · exact (h2 _ _ (ctx_blk C s H scope cl Cd fp)).1
        · exact pe_bad
      · exact pe_bad
  | .NamedExpr .., _, _, _, _ => ok_bad
  | .Lambda .., _, _, _, _ => ok_bad
  | .Dict .., _, _, _, _ => ok_bad
  | .Set .., _, _, _, _ => ok_bad
  | .SetComp .., _, _, _, _ => ok_bad
  | .DictComp .., _, _, _, _ => ok_bad
  | .GeneratorExp .., _, _, _, _ => ok_bad
  | .Await .., _, _, _, _ => ok_bad
  | .Yield .., _, _, _, _ => ok_bad
  | .YieldFrom .., _, _, _, _ => ok_bad
  | .FormattedValue .., _, _, _, _ => ok_bad
  | .JoinedStr .., _, _, _, _ => ok_bad
  | .Attribute .., _, _, _, _ => ok_bad
  | .Starred .., _, _, _, _ => ok_bad
  | .Slice .., _, _, _, _ => ok_bad
termination_by structural e => e
theorem dL_ok {M : Str → Option Mi} (hM : MOk M) : ∀ (es : List Expr) (E : SE) (X : Cx) (W : WX), Ctx X W E → AllE X W es (dL M es E)
  | [], _, _, _, _ => trivial
  | e :: es, E, X, W, C => by
    have h1 := dX_ok hM e E X W C
    exact ⟨h1.1, h1.2, dL_ok hM es E X W C⟩
termination_by structural e => e
theorem dA1_ok {M : Str → Option Mi} (hM : MOk M) : ∀ (es : List Expr) (E : SE) (X : Cx) (W : WX), Ctx X W E → ∀ f as kws p r, es = .Call f as kws p :: r → AllE X W as (dA1 M es E)
  | [], _, _, _, _, _, _, _, _, _, h => by cases h
  | e :: _, E, X, W, C, _, _, _, _, _, h => by
    have h1 := dArgs_ok hM e E X W C
    cases h
    exact h1 _ _ _ _ rfl
termination_by structural es => es
theorem dRecv_ok {M : Str → Option Mi} (hM : MOk M) : ∀ (e : Expr) (E : SE) (X : Cx) (W : WX), Ctx X W E → ∀ o m ap, e = .Attribute o m ap → PE X o (tOf X.K W (dRecv M e E))
  | .Attribute o m ap, E, X, W, C, _, _, _, h => by
    have h1 := dX_ok hM o E X W C
    cases h
    exact h1.1
  | .Constant .., _, _, _, _, _, _, _, h => by cases h
  | .Name .., _, _, _, _, _, _, _, h => by cases h
  | .BinOp .., _, _, _, _, _, _, _, h => by cases h
  | .UnaryOp .., _, _, _, _, _, _, _, h => by cases h
  | .BoolOp .., _, _, _, _, _, _, _, h => by cases h
  | .IfExp .., _, _, _, _, _, _, _, h => by cases h
  | .Compare .., _, _, _, _, _, _, _, h => by cases h
  | .Tuple .., _, _, _, _, _, _, _, h => by cases h
  | .List .., _, _, _, _, _, _, _, h => by cases h
  | .Call .., _, _, _, _, _, _, _, h => by cases h
  | .Subscript .., _, _, _, _, _, _, _, h => by cases h
  | .ListComp .., _, _, _, _, _, _, _, h => by cases h
  | .NamedExpr .., _, _, _, _, _, _, _, h => by cases h
  | .Lambda .., _, _, _, _, _, _, _, h => by cases h
  | .Dict .., _, _, _, _, _, _, _, h => by cases h
  | .Set .., _, _, _, _, _, _, _, h => by cases h
  | .SetComp .., _, _, _, _, _, _, _, h => by cases h
  | .DictComp .., _, _, _, _, _, _, _, h => by cases h
  | .GeneratorExp .., _, _, _, _, _, _, _, h => by cases h
  | .Await .., _, _, _, _, _, _, _, h => by cases h
  | .Yield .., _, _, _, _, _, _, _, h => by cases h
  | .YieldFrom .., _, _, _, _, _, _, _, h => by cases h
  | .FormattedValue .., _, _, _, _, _, _, _, h => by cases h
  | .JoinedStr .., _, _, _, _, _, _, _, h => by cases h
  | .Starred .., _, _, _, _, _, _, _, h => by cases h
  | .Slice .., _, _, _, _, _, _, _, h => by cases h
termination_by structural e => e
theorem dSl_ok {M : Str → Option Mi} (hM : MOk M) : ∀ (e : Expr) (E : SE) (X : Cx) (W : WX), Ctx X W E → ∀ fl fh, dSl M e E = some (fl, fh) → ∃ lo hi p, e = .Slice lo hi none p ∧ PO2 X W lo fl ∧ PO2 X W hi fh
  | .Slice lo hi st p, E, X, W, C, fl, fh, h => by
    have h1 := dO_ok hM lo E X W C
    have h2 := dO_ok hM hi E X W C
    cases st with
    | none =>
      have h : some (dO M lo E, dO M hi E) = some (fl, fh) := h
      cases h
      exact ⟨lo, hi, p, rfl, h1, h2⟩
    | some _ => cases h
  | .Attribute .., _, _, _, _, _, _, h => by cases h
  | .Constant .., _, _, _, _, _, _, h => by cases h
  | .Name .., _, _, _, _, _, _, h => by cases h
  | .BinOp .., _, _, _, _, _, _, h => by cases h
  | .UnaryOp .., _, _, _, _, _, _, h => by cases h
  | .BoolOp .., _, _, _, _, _, _, h => by cases h
  | .IfExp .., _, _, _, _, _, _, h => by cases h
  | .Compare .., _, _, _, _, _, _, h => by cases h
  | .Tuple .., _, _, _, _, _, _, h => by cases h
  | .List .., _, _, _, _, _, _, h => by cases h
  | .Call .., _, _, _, _, _, _, h => by cases h
  | .Subscript .., _, _, _, _, _, _, h => by cases h
  | .ListComp .., _, _, _, _, _, _, h => by cases h
  | .NamedExpr .., _, _, _, _, _, _, h => by cases h
  | .Lambda .., _, _, _, _, _, _, h => by cases h
  | .Dict .., _, _, _, _, _, _, h => by cases h
  | .Set .., _, _, _, _, _, _, h => by cases h
  | .SetComp .., _, _, _, _, _, _, h => by cases h
  | .DictComp .., _, _, _, _, _, _, h => by cases h
  | .GeneratorExp .., _, _, _, _, _, _, h => by cases h
  | .Await .., _, _, _, _, _, _, h => by cases h
  | .Yield .., _, _, _, _, _, _, h => by cases h
  | .YieldFrom .., _, _, _, _, _, _, h => by cases h
  | .FormattedValue .., _, _, _, _, _, _, h => by cases h
  | .JoinedStr .., _, _, _, _, _, _, h => by cases h
  | .Starred .., _, _, _, _, _, _, h => by cases h
termination_by structural e => e
theorem dO_ok {M : Str → Option Mi} (hM : MOk M) : ∀ (e : Option Expr) (E : SE) (X : Cx) (W : WX), Ctx X W E → PO2 X W e (dO M e E)
  | none, _, _, _, _ => do_none
  | some e, E, X, W, C => do_some (dX_ok hM e E X W C).1
termination_by structural e => e
theorem dArgs_ok {M : Str → Option Mi} (hM : MOk M) : ∀ (e : Expr) (E : SE) (X : Cx) (W : WX), Ctx X W E → ∀ f args kws p, e = .Call f args kws p → AllE X W args (dArgs M e E)
  | .Call f args kws p, E, X, W, C, _, _, _, _, h => by
    have h1 := dL_ok hM args E X W C
    cases h
    exact h1
  | .Attribute .., _, _, _, _, _, _, _, _, h => by cases h
  | .Constant .., _, _, _, _, _, _, _, _, h => by cases h
  | .Name .., _, _, _, _, _, _, _, _, h => by cases h
  | .BinOp .., _, _, _, _, _, _, _, _, h => by cases h
  | .UnaryOp .., _, _, _, _, _, _, _, _, h => by cases h
  | .BoolOp .., _, _, _, _, _, _, _, _, h => by cases h
  | .IfExp .., _, _, _, _, _, _, _, _, h => by cases h
  | .Compare .., _, _, _, _, _, _, _, _, h => by cases h
  | .Tuple .., _, _, _, _, _, _, _, _, h => by cases h
  | .List .., _, _, _, _, _, _, _, _, h => by cases h
  | .Subscript .., _, _, _, _, _, _, _, _, h => by cases h
  | .ListComp .., _, _, _, _, _, _, _, _, h => by cases h
  | .NamedExpr .., _, _, _, _, _, _, _, _, h => by cases h
  | .Lambda .., _, _, _, _, _, _, _, _, h => by cases h
  | .Dict .., _, _, _, _, _, _, _, _, h => by cases h
  | .Set .., _, _, _, _, _, _, _, _, h => by cases h
  | .SetComp .., _, _, _, _, _, _, _, _, h => by cases h
  | .DictComp .., _, _, _, _, _, _, _, _, h => by cases h
  | .GeneratorExp .., _, _, _, _, _, _, _, _, h => by cases h
  | .Await .., _, _, _, _, _, _, _, _, h => by cases h
  | .Yield .., _, _, _, _, _, _, _, _, h => by cases h
  | .YieldFrom .., _, _, _, _, _, _, _, _, h => by cases h
  | .FormattedValue .., _, _, _, _, _, _, _, _, h => by cases h
  | .JoinedStr .., _, _, _, _, _, _, _, _, h => by cases h
  | .Starred .., _, _, _, _, _, _, _, _, h => by cases h
  | .Slice .., _, _, _, _, _, _, _, _, h => by cases h
termination_by structural e => e
theorem dGen_ok {M : Str → Option Mi} (hM : MOk M) : ∀ (gs : List Comprehension) (E E' : SE) (tg iter : Expr) (it : PIt) (ct : CT) (t : PTs'), dGen M gs E E' = some (tg, iter, it, ct, t) →
    ∃ ifs, gs = [⟨tg, iter, ifs, 0⟩] ∧ dCT E' tg = some ct ∧ (∀ X W, Ctx X W E → PI X tg iter (iOf X.K W it)) ∧ ∀ X' W', Ctx X' W' E' → PTs X' ifs (tOfT X'.K W' t)
  | [g], E, E', tg, iter, it, ct, t, h => by
    obtain ⟨ifs, e, q⟩ := dG1_ok hM g E E' tg iter it ct t h
    exact ⟨ifs, by rw [e], q⟩
  | [], _, _, _, _, _, _, _, h => by cases h
  | _ :: _ :: _, _, _, _, _, _, _, _, h => by cases h
termination_by structural gs => gs
theorem dG1_ok {M : Str → Option Mi} (hM : MOk M) : ∀ (g : Comprehension) (E E' : SE) (tg iter : Expr) (it : PIt) (ct : CT) (t : PTs'), dG1 M g E E' = some (tg, iter, it, ct, t) →
    ∃ ifs, g = ⟨tg, iter, ifs, 0⟩ ∧ dCT E' tg = some ct ∧ (∀ X W, Ctx X W E → PI X tg iter (iOf X.K W it)) ∧ ∀ X' W', Ctx X' W' E' → PTs X' ifs (tOfT X'.K W' t)
  | ⟨tg0, iter0, ifs, a⟩, E, E', tg, iter, it, ct, t, h => by
    have h1 : ∀ X W, Ctx X W E → EOk X W iter0 (dX M iter0 E) := fun X W C => dX_ok hM iter0 E X W C
    have h2 : ∀ X W, Ctx X W E → ∀ f args kws p, iter0 = .Call f args kws p → AllE X W args (dArgs M iter0 E) := fun X W C => dArgs_ok hM iter0 E X W C
    have h3 : ∀ X W, Ctx X W E' → AllE X W ifs (dL M ifs E') := fun X W C => dL_ok hM ifs E' X W C
    have hh : (if a = 0 then (match dCT E' tg0, testsF (dL M ifs E') with
      | some ct, some t => some (tg0, iter0, iterF E tg0 iter0 (dArgs M iter0 E) (dX M iter0 E).1, ct, t)
      | _, _ => none) else none) = some (tg, iter, it, ct, t) := h
    split at hh
    · rename_i ha
      subst ha
      split at hh
      · rename_i ct' t' e1 e2
        cases hh
        exact ⟨ifs, rfl, e1, fun X W C => iterF_ok C (h1 X W C).1 (h2 X W C), fun X' W' C' => testsF_ok (h3 X' W' C') e2⟩
      · cases hh
    · cases hh
termination_by structural g => g
end
end DL
set_option Elab.async false
set_option linter.all false
set_option maxRecDepth 100000
/-! DStmt: statements by their trees. -/
namespace DL
open PySem L2
open Classical

inductive RS where
  | nx (δ : Sl) (S : SS)
  | rt (d : D) (S : SS)
  | bk (δ : Sl) (S : SS)
  | ct (δ : Sl) (S : SS)
  | exc (δ : Sl) (C : Addr) (fs : List (Str × D)) (S : SS)
  | bad
abbrev PSt := Sl → SS → RS
def PostS (K : PySem.W.Frag) (W : WX) (ι : List Addr) (H : Hp) (r : RS) (Q : Ends) : Prop :=
  match r with
  | .nx δ S' => ∀ σ' H' ι', Gr K H ι H' ι' → RelS K H' ι' S' → ROs K H' ι' δ σ' → Q.nx σ' H'
  | .bk δ S' => ∀ σ' H' ι', Gr K H ι H' ι' → RelS K H' ι' S' → ROs K H' ι' δ σ' → Q.bk σ' H'
  | .ct δ S' => ∀ σ' H' ι', Gr K H ι H' ι' → RelS K H' ι' S' → ROs K H' ι' δ σ' → Q.ct σ' H'
  | .rt d S' => ∀ v H' ι', Gr K H ι H' ι' → RelS K H' ι' S' → RD K H' ι' d v → Q.rt v H'
  | .exc δ C fs S' => ∀ σ' H' ι' dd fs', Gr K H ι H' ι' → RelS K H' ι' S' → ROs K H' ι' δ σ' → H' dd = some (.xd fs') → RF K H' ι' fs fs' → W (.ref C) (some dd) σ' H'
  | .bad => False
def tOfS (K : PySem.W.Frag) (W : WX) (g : PSt) : TS := fun Q σ H => ∃ ι S δ, RelS K H ι S ∧ ROs K H ι δ σ ∧ PostS K W ι H (g δ S) Q
def RS.seq : RS → PSt → RS
  | .nx δ S, g => g δ S
  | r, _ => r
def R.to {α : Type} (r : R α) (δ : Sl) (k : α → SS → RS) : RS := match r with
  | .ok x S => k x S
  | .exc C fs S => .exc δ C fs S
  | .bad => .bad
@[simp] theorem R.to_ok {α : Type} {x : α} {S : SS} {δ : Sl} {k : α → SS → RS} : (R.ok x S).to δ k = k x S := rfl
@[simp] theorem R.to_exc {α : Type} {C : Addr} {fs : List (Str × D)} {S : SS} {δ : Sl} {k : α → SS → RS} : (R.exc C fs S : R α).to δ k = .exc δ C fs S := rfl
@[simp] theorem R.to_bad {α : Type} {δ : Sl} {k : α → SS → RS} : (R.bad : R α).to δ k = .bad := rfl
@[simp] theorem RS.seq_nx {δ : Sl} {S : SS} {g : PSt} : (RS.nx δ S).seq g = g δ S := rfl
@[simp] theorem RS.seq_rt {d : D} {S : SS} {g : PSt} : (RS.rt d S).seq g = .rt d S := rfl
@[simp] theorem RS.seq_bk {δ : Sl} {S : SS} {g : PSt} : (RS.bk δ S).seq g = .bk δ S := rfl
@[simp] theorem RS.seq_ct {δ : Sl} {S : SS} {g : PSt} : (RS.ct δ S).seq g = .ct δ S := rfl
@[simp] theorem RS.seq_exc {δ : Sl} {C : Addr} {fs : List (Str × D)} {S : SS} {g : PSt} : (RS.exc δ C fs S).seq g = .exc δ C fs S := rfl
@[simp] theorem RS.seq_bad {g : PSt} : RS.bad.seq g = .bad := rfl
section
variable {K : PySem.W.Frag} {W : WX} {ι ι1 : List Addr} {H H1 : Hp}
theorem PostS.later {r : RS} {Q : Ends} (g : Gr K H ι H1 ι1) (h : PostS K W ι H r Q) : PostS K W ι1 H1 r Q := by
  cases r with
  | nx δ S => exact fun σ' H' ι' g' => h σ' H' ι' (g.trans g')
  | bk δ S => exact fun σ' H' ι' g' => h σ' H' ι' (g.trans g')
  | ct δ S => exact fun σ' H' ι' g' => h σ' H' ι' (g.trans g')
  | rt d S => exact fun v H' ι' g' => h v H' ι' (g.trans g')
  | exc δ C fs S => exact fun σ' H' ι' dd fs' g' => h σ' H' ι' dd fs' (g.trans g')
  | bad => exact h
theorem PostS.seq {r : RS} {g : PSt} {Q : Ends} (h : PostS K W ι H (r.seq g) Q) : PostS K W ι H r { Q with nx := tOfS K W g Q } := by
  cases r with
  | nx δ S => exact fun σ' H' ι' g' s ro => ⟨ι', S, δ, s, ro, PostS.later g' h⟩
  | bk δ S => exact h
  | ct δ S => exact h
  | rt d S => exact h
  | exc δ C fs S => exact h
  | bad => exact h
/-- an expression first -/
theorem PostS.to {α β : Type} {rel : Hp → List Addr → α → β → Prop} {r : R α} {δ : Sl} {σ : St} {k : α → SS → RS} {Q : Ends} (h : PostS K W ι H (r.to δ k) Q) (ro : ROs K H ι δ σ) :
    Post rel K W ι H σ r (fun v H1 => ∃ ι1 S1 x, Gr K H ι H1 ι1 ∧ RelS K H1 ι1 S1 ∧ rel H1 ι1 x v ∧ PostS K W ι1 H1 (k x S1) Q) := by
  cases r with
  | ok x S => exact fun v H1 ι1 g s q => ⟨ι1, S, x, g, s, q, PostS.later g h⟩
  | exc C fs S => exact fun H' ι' dd fs' g s e q => h σ H' ι' dd fs' g s (ro.mono g) e q
  | bad => exact h
end

/-! ### the forms -/
def sBad : PSt := fun _ _ => .bad
def sNil : PSt := fun δ S => .nx δ S
def sSeq (a b : PSt) : PSt := fun δ S => (a δ S).seq b
def sDrop (f : PEx) : PSt := fun δ S => (f δ S).to δ fun _ S1 => .nx δ S1
def sRet (f : PEx) : PSt := fun δ S => (f δ S).to δ fun x S1 => .rt x S1
def sRetN : PSt := fun _ S => .rt .non S
def sIf (t : PTs') (a b : PSt) : PSt := fun δ S => (t δ S).to δ fun c S1 => if c = true then a δ S1 else b δ S1
def sAsg (f : PEx) (ct : CT) : PSt := fun δ S => (f δ S).to δ fun x S1 => match bindC ct x δ with
  | some δ' => .nx δ' S1
  | none => .bad
/-- o[i] = v of a list -/
def setD (o i v : D) (S : SS) : Option SS := match o, i with
  | .ref k, .int j => match S[k]? with
    | some (.lst ds) => (ixN ds.length j).map fun n => S.set k (.lst (ds.set n v))
    | _ => none
  | _, _ => none
def sSet (f o i : PEx) : PSt := fun δ S => (f δ S).to δ fun x S1 => (o δ S1).to δ fun y S2 => (i δ S2).to δ fun z S3 => match setD y z x S3 with
  | some S4 => .nx δ S4
  | none => .bad
/-- numbers and texts alone -/
def augD : Operator → G2
  | .Add, .int i, .int j, S => some (.int (i + j), S)
  | .Add, .str x, .str y, S => if x.length + y.length ≤ sizeLine then some (.str (x ++ y), S) else none
  | .Add, .ref i, .ref j, S => match S[i]?, S[j]? with
    | some (.lst xs), some (.lst ys) => if xs.length + ys.length ≤ sizeLine then some (.ref i, S.set i (.lst (xs ++ ys))) else none
    | _, _ => none
  | .Sub, .int i, .int j, S => some (.int (i - j), S)
  | .Mult, .int i, .int j, S => if MulOk i j then some (.int (i * j), S) else none
  | .FloorDiv, .int i, .int j, S => if 0 < j ∧ j < 1073741824 then some (.int (i / j), S) else none
  | _, _, _, _ => none
def sAug (op : Operator) (n : Nat) (f : PEx) : PSt := fun δ S => match δ[n]? with
  | some (some x) => (f δ S).to δ fun y S1 => match augD op x y S1 with
    | some (z, S2) => .nx (δ.set n (some z)) S2
    | none => .bad
  | _ => .bad
noncomputable def forL (gd : Gd) (ct : CT) (body : PSt) : List D → Sl → SS → RS
  | [], δ, S => if gOk gd S then .nx δ S else .bad
  | d :: r, δ, S => if gOk gd S then (match bindC ct d δ with
    | none => .bad
    | some δ1 => match body δ1 S with
      | .nx δ' S' => forL gd ct body r δ' S'
      | .ct δ' S' => forL gd ct body r δ' S'
      | .bk δ' S' => .nx δ' S'
      | x => x) else .bad
noncomputable def sFor (it : PIt) (ct : CT) (body : PSt) : PSt := fun δ S => (it δ S).to δ fun x S1 => forL x.2 ct body x.1 δ S1
def whN (t : PTs') (b : PSt) : Nat → PSt
  | 0 => fun _ _ => .bad
  | n + 1 => fun δ S => (t δ S).to δ fun c S1 => if c = true then (match b δ S1 with
    | .nx δ' S' => whN t b n δ' S'
    | .ct δ' S' => whN t b n δ' S'
    | .bk δ' S' => .nx δ' S'
    | x => x) else .nx δ S1
noncomputable def sWhile (t : PTs') (b : PSt) : PSt := fun δ S => if h : ∃ n, whN t b n δ S ≠ .bad then whN t b (choose h) δ S else .bad
section
variable {t : PTs'} {b : PSt}
theorem whN_up : ∀ (n : Nat) (δ : Sl) (S : SS), whN t b n δ S ≠ .bad → whN t b (n + 1) δ S = whN t b n δ S
  | 0, _, _, h => absurd rfl h
  | n + 1, δ, S, h => by
    show (t δ S).to δ _ = (t δ S).to δ _
    have h : (t δ S).to δ (fun c S1 => if c = true then (match b δ S1 with
      | .nx δ' S' => whN t b n δ' S'
      | .ct δ' S' => whN t b n δ' S'
      | .bk δ' S' => .nx δ' S'
      | x => x) else .nx δ S1) ≠ .bad := h
    cases ht : t δ S with
    | ok c S1 =>
      rw [ht, R.to_ok] at h
      rw [R.to_ok, R.to_ok]
      cases c with
      | true =>
        simp only [if_true] at h ⊢
        cases hb : b δ S1 with
        | nx δ' S' => rw [hb] at h; exact whN_up n δ' S' h
        | ct δ' S' => rw [hb] at h; exact whN_up n δ' S' h
        | _ => rfl
      | false => rfl
    | exc C fs S1 => rfl
    | bad => rfl
theorem whN_le {n : Nat} {δ : Sl} {S : SS} (h : whN t b n δ S ≠ .bad) : ∀ k, whN t b (n + k) δ S = whN t b n δ S
  | 0 => rfl
  | k + 1 => by
    have ih := whN_le h k
    rw [← Nat.add_assoc, whN_up _ _ _ (by rw [ih]; exact h), ih]
theorem sWhile_of {n : Nat} {δ : Sl} {S : SS} {r : RS} (h : whN t b n δ S = r) (hr : r ≠ .bad) : sWhile t b δ S = r := by
  have ex : ∃ n, whN t b n δ S ≠ .bad := ⟨n, by rw [h]; exact hr⟩
  unfold sWhile
  rw [dif_pos ex]
  have h2 := choose_spec ex
  rcases Nat.le_total n (choose ex) with hl | hl
  · obtain ⟨k, e⟩ := Nat.exists_eq_add_of_le hl
    rw [e, whN_le (by rw [h]; exact hr) k, h]
  · obtain ⟨k, e⟩ := Nat.exists_eq_add_of_le hl
    rw [← h, e, whN_le h2 k]
theorem of_sWhile {δ : Sl} {S : SS} (h : sWhile t b δ S ≠ .bad) : ∃ n, whN t b n δ S = sWhile t b δ S := by
  unfold sWhile at h ⊢
  split at h
  · rename_i ex
    rw [dif_pos ex]
    exact ⟨_, rfl⟩
  · exact absurd rfl h
/-- one turn -/
theorem sWhile_eq (δ : Sl) (S : SS) : sWhile t b δ S = (t δ S).to δ fun c S1 => if c = true then (match b δ S1 with
    | .nx δ' S' => sWhile t b δ' S'
    | .ct δ' S' => sWhile t b δ' S'
    | .bk δ' S' => .nx δ' S'
    | x => x) else .nx δ S1 := by
  generalize hr : (t δ S).to δ (fun c S1 => if c = true then (match b δ S1 with
    | .nx δ' S' => sWhile t b δ' S'
    | .ct δ' S' => sWhile t b δ' S'
    | .bk δ' S' => .nx δ' S'
    | x => x) else .nx δ S1) = r
  by_cases hb : r = .bad
  · by_cases hw : sWhile t b δ S = .bad
    · rw [hw, hb]
    · obtain ⟨n, hn⟩ := of_sWhile hw
      cases n with
      | zero => exact absurd hn.symm hw
      | succ n =>
        rw [← hr]
        have hn' : (t δ S).to δ (fun c S1 => if c = true then (match b δ S1 with
          | .nx δ' S' => whN t b n δ' S'
          | .ct δ' S' => whN t b n δ' S'
          | .bk δ' S' => .nx δ' S'
          | x => x) else .nx δ S1) = sWhile t b δ S := hn
        rw [← hn'] at hw ⊢
        cases ht : t δ S with
        | ok c S1 =>
          rw [ht] at hw
          rw [R.to_ok, R.to_ok]
          cases c with
          | true =>
            rw [R.to_ok] at hw
            simp only [if_true] at hw ⊢
            cases hbo : b δ S1 with
            | nx δ' S' => rw [hbo] at hw; exact (sWhile_of rfl hw).symm
            | ct δ' S' => rw [hbo] at hw; exact (sWhile_of rfl hw).symm
            | _ => rfl
          | false => rfl
        | exc C fs S1 => rfl
        | bad => rfl
  · have step : ∃ n, whN t b (n + 1) δ S = r := by
      cases ht : t δ S with
      | ok c S1 =>
        rw [ht, R.to_ok] at hr
        cases c with
        | true =>
          simp only [if_true] at hr
          cases hbo : b δ S1 with
          | nx δ' S' =>
            rw [hbo] at hr
            obtain ⟨n, hn⟩ := of_sWhile (t := t) (b := b) (δ := δ') (S := S') (by rw [show sWhile t b δ' S' = r from hr]; exact hb)
            refine ⟨n, ?_⟩
            show (t δ S).to δ _ = r
            rw [ht, R.to_ok]
            simp only [if_true, hbo]
            rw [hn]
            exact hr
          | ct δ' S' =>
            rw [hbo] at hr
            obtain ⟨n, hn⟩ := of_sWhile (t := t) (b := b) (δ := δ') (S := S') (by rw [show sWhile t b δ' S' = r from hr]; exact hb)
            refine ⟨n, ?_⟩
            show (t δ S).to δ _ = r
            rw [ht, R.to_ok]
            simp only [if_true, hbo]
            rw [hn]
            exact hr
          | _ =>
            rw [hbo] at hr
            refine ⟨0, ?_⟩
            show (t δ S).to δ _ = r
            rw [ht, R.to_ok]
            simp only [if_true, hbo]
            exact hr
        | false =>
          refine ⟨0, ?_⟩
          show (t δ S).to δ _ = r
          rw [ht, R.to_ok]
          exact hr
      | exc C fs S1 =>
        refine ⟨0, ?_⟩
        show (t δ S).to δ _ = r
        rw [ht]
        rw [ht] at hr
        exact hr
      | bad =>
        rw [ht] at hr
        exact absurd hr.symm hb
    obtain ⟨n, hn⟩ := step
    exact sWhile_of hn hb
end

/-! ### the machine agrees -/
section
variable {X : Cx} {W : WX} {a c o i tg : Expr} {fa fo fi : PEx} {t : PTs'} {st : Stmt} {sts : List Stmt} {g g' : PSt} {pos : Pos} {ct : CT} {it : PIt}
theorem ps_bad : PS X st (tOfS X.K W sBad) := ⟨fun _ _ _ _ _ _ ⟨_, _, _, _, _, h⟩ => h.elim⟩
theorem pss_bad : PSs X sts (tOfS X.K W sBad) := ⟨fun _ _ _ _ _ _ ⟨_, _, _, _, _, h⟩ => h.elim⟩
theorem ds_nil : PSs X [] (tOfS X.K W sNil) := PSs.imp pss_nil fun Q σ H ⟨ι, S, δ, rs, ro, q⟩ => q σ H ι Gr.refl rs ro
theorem ds_cons (h1 : PS X st (tOfS X.K W g)) (h2 : PSs X sts (tOfS X.K W g')) : PSs X (st :: sts) (tOfS X.K W (sSeq g g')) :=
  PSs.imp (pss_cons h1 h2) fun Q σ H ⟨ι, S, δ, rs, ro, q⟩ => ⟨ι, S, δ, rs, ro, q.seq⟩
theorem ds_drop (h : PE X a (tOf X.K W fa)) (hs : swapsWith a none pos.line X.env = pure false) : PS X (.Expr a pos) (tOfS X.K W (sDrop fa)) :=
  PS.imp (ps_expr h hs) fun Q σ H ⟨ι, S, δ, rs, ro, q⟩ => ⟨ι, S, δ, rs, ro, (PostS.to (rel := RD X.K) q ro).mono fun v H1 ⟨ι1, S1, x, g1, rs1, rx, q1⟩ => q1 σ H1 ι1 Gr.refl rs1 (ro.mono g1)⟩
theorem ds_ret (h : PE X a (tOf X.K W fa)) : PS X (.Return (some a) pos) (tOfS X.K W (sRet fa)) :=
  PS.imp (ps_ret h) fun Q σ H ⟨ι, S, δ, rs, ro, q⟩ => ⟨ι, S, δ, rs, ro, (PostS.to (rel := RD X.K) q ro).mono fun v H1 ⟨ι1, S1, x, g1, rs1, rx, q1⟩ => q1 v H1 ι1 Gr.refl rs1 rx⟩
theorem ds_retN : PS X (.Return none pos) (tOfS X.K W sRetN) :=
  PS.imp ps_retN fun Q σ H ⟨ι, S, δ, rs, ro, q⟩ => q .non H ι Gr.refl rs RD.mnon
theorem ds_pass : PS X (.Pass pos) (tOfS X.K W sNil) := PS.imp ps_pass fun Q σ H ⟨ι, S, δ, rs, ro, q⟩ => q σ H ι Gr.refl rs ro
theorem ds_brk : PS X (.Break pos) (tOfS X.K W fun δ S => .bk δ S) := PS.imp ps_break fun Q σ H ⟨ι, S, δ, rs, ro, q⟩ => q σ H ι Gr.refl rs ro
theorem ds_cont : PS X (.Continue pos) (tOfS X.K W fun δ S => .ct δ S) := PS.imp ps_continue fun Q σ H ⟨ι, S, δ, rs, ro, q⟩ => q σ H ι Gr.refl rs ro
theorem ds_if {bs bs' : List Stmt} (hc : PT X c (tOfT X.K W t)) (h1 : PSs X bs (tOfS X.K W g)) (h2 : PSs X bs' (tOfS X.K W g')) : PS X (.If c bs bs' pos) (tOfS X.K W (sIf t g g')) :=
  PS.imp (ps_if hc h1 h2) fun Q σ H ⟨ι, S, δ, rs, ro, q⟩ => ⟨ι, S, δ, rs, ro, (PostS.to (rel := rB) q ro).mono fun k H1 ⟨ι1, S1, k', g1, rs1, e, q1⟩ => by
    have e : k' = k := e
    subst e
    cases k' with
    | true => exact ⟨ι1, S1, δ, rs1, ro.mono g1, q1⟩
    | false => exact ⟨ι1, S1, δ, rs1, ro.mono g1, q1⟩⟩
theorem i_asg {σ : St} {H : Hp} {Q : Ends} (h : tOfS X.K W (sAsg fa ct) Q σ H) : tAsg (tOf X.K W fa) (gC X.K ct) Q σ H := by
  obtain ⟨ι, S, δ, rs, ro, q⟩ := h
  refine ⟨ι, S, δ, rs, ro, (PostS.to (rel := RD X.K) q ro).mono fun v H1 ⟨ι1, S1, x, g1, rs1, rx, q1⟩ => ?_⟩
  split at q1
  · rename_i δ' hb
    exact gC_ok hb rx (ro.mono g1) fun σ' ro' _ => q1 σ' H1 ι1 Gr.refl rs1 ro'
  · exact q1.elim
theorem ds_asg (h : PE X a (tOf X.K W fa)) (hg : PG X tg (gC X.K ct)) (hs : swapsWithSole [tg] a pos.line X.env = pure false) (hw : swappedStores [tg] a X.env = pure none) (h1 : (assignEach [tg] X.env).map (·.2) = [assign tg X.env]) : PS X (.Assign [tg] a pos) (tOfS X.K W (sAsg fa ct)) :=
  PS.imp (ps_asg h hg hs hw h1) fun _ _ _ h => i_asg h
theorem ds_set (h : PE X a (tOf X.K W fa)) (ho : PE X o (tOf X.K W fo)) (hi : PE X i (tOf X.K W fi)) {p : Pos} (hs : swapsWithSole [.Subscript o i p] a pos.line X.env = pure false) (hw : swappedStores [.Subscript o i p] a X.env = pure none) (hp : ∀ v, assign (.Subscript o i p) X.env v = (do
      let ov ← holding [v] (eval o X.env)
      let iv ← holding [v, ov] (eval i X.env)
      standAt p
      holding [v, ov, iv] (setItem ov iv v)
      release [v, ov, iv] [])) : PS X (.Assign [.Subscript o i p] a pos) (tOfS X.K W (sSet fa fo fi)) := by
  refine PS.imp (ps_asg h (pg_sub ho hi set_list hp) hs hw rfl) fun Q σ H ⟨ι, S, δ, rs, ro, q⟩ => ⟨ι, S, δ, rs, ro, ?_⟩
  refine (PostS.to (rel := RD X.K) q ro).mono fun v H1 ⟨ι1, S1, x, g1, rs1, rx, q1⟩ => ⟨ι1, S1, δ, rs1, ro.mono g1, ?_⟩
  refine (PostS.to (rel := RD X.K) q1 (ro.mono g1)).mono fun v2 H2 ⟨ι2, S2, y, g2, rs2, ry, q2⟩ => ⟨ι2, S2, δ, rs2, (ro.mono g1).mono g2, ?_⟩
  refine (PostS.to (rel := RD X.K) q2 ((ro.mono g1).mono g2)).mono fun v3 H3 ⟨ι3, S3, z, g3, rs3, rz, q3⟩ => ?_
  have rx3 := (rx.mono g2).mono g3
  have ry3 := ry.mono g3
  unfold setD at q3
  split at q3
  · rename_i S4 hS
    split at hS
    · split at hS
      · rename_i ds hk
        rw [Option.map_eq_some_iff] at hS
        obtain ⟨n, hn, rfl⟩ := hS
        obtain ⟨p', vs, rfl, h0, h1, h2⟩ := rs3.lst hk ry3
        rw [rz.int]
        refine ⟨p', vs, _, n, rfl, rfl, h1, by rw [← h2.length]; exact hn, ?_⟩
        have gw : Gr X.K H3 ι3 (upd H3 p' (.lst (vs.set n v))) ι3 := Gr.write rs3 h0
        exact q3 σ _ ι3 gw (rs3.write (ob := .lst (ds.set n x)) h0 ⟨_, upd_same, (h2.set rx3 n).mono gw⟩) ((((ro.mono g1).mono g2).mono g3).mono gw)
      · cases hS
    · cases hS
  · exact q3.elim
theorem ip_aug {op : Operator} : PIp X op (rOf2 X.K (augD op)) := by
  intro pins s σ H x y v u Q I rx ry h
  obtain ⟨ι, S, d, e, rs, r1, r2, q⟩ := h
  unfold augD at q
  split at q
  · rw [r1.int] at rx
    rw [r2.int] at ry
    exact iop_add pins s σ H _ _ v u Q I rx ry ⟨_, _, rfl, rfl, q.val rs RD.mint⟩
  · split at q
    · rw [r1.str] at rx
      rw [r2.str] at ry
      exact iop_add_str pins s σ H _ _ v u Q I rx ry ⟨_, _, rfl, rfl, by assumption, q.val rs RD.mstr⟩
    · exact q.elim
  · split at q
    · rename_i h1 h2
      split at q
      · rename_i hl
        obtain ⟨a, vs, rfl, i0, i1, i2⟩ := rs.lst h1 r1
        obtain ⟨b, us, rfl, j0, j1, j2⟩ := rs.lst h2 r2
        rw [i2.length, j2.length] at hl
        exact iop_ext pins s σ H _ _ v u Q I rx ry ⟨a, b, vs, us, rfl, rfl, i1, j1, hl, q.write rs i0 (i2.append j2) r1⟩
      · exact q.elim
    · exact q.elim
  · rw [r1.int] at rx
    rw [r2.int] at ry
    exact iop_sub pins s σ H _ _ v u Q I rx ry ⟨_, _, rfl, rfl, q.val rs RD.mint⟩
  · split at q
    · rename_i hm
      rw [r1.int] at rx
      rw [r2.int] at ry
      obtain ⟨t, rfl⟩ := rx
      obtain ⟨t', rfl⟩ := ry
      exact PyProof.Rows.imul_int ⟨.int _, H, I.tok _, ⟨_, rfl⟩, q.val rs RD.mint⟩ (CMulW.ok hm)
    · exact q.elim
  · split at q
    · rename_i hm
      rw [r1.int] at rx
      rw [r2.int] at ry
      exact iop_fdiv pins s σ H _ _ v u Q I rx ry ⟨_, _, rfl, rfl, hm, q.val rs RD.mint⟩
    · exact q.elim
  · exact q.elim
theorem ds_aug {op : Operator} {n : Nat} {x : Str} {p : Pos} (hN : X.N.Nodup) (hi : X.N[n]? = some x) (hx : Loc X.env.scope x) (hf : X.fn x = true ∨ X.env.scope.names.lookup x = some .local) (h : PE X a (tOf X.K W fa)) : PS X (.AugAssign (.Name x p) op a pos) (tOfS X.K W (sAug op n fa)) := by
  refine PS.imp (ps_aug hN hi hx h ip_aug hf) fun Q σ H ⟨ι, S, δ, rs, ro, q⟩ => ?_
  unfold sAug at q
  split at q
  · rename_i d hd
    obtain ⟨v, hv, rv⟩ := ro.2 n d hd
    refine ⟨v, hv, ι, S, δ, rs, ro, (PostS.to (rel := RD X.K) q ro).mono fun u H1 ⟨ι1, S1, y, g1, rs1, ry, q1⟩ => ⟨ι1, S1, d, y, rs1, rv.mono g1, ry, ?_⟩⟩
    split at q1
    · rename_i z S2 hz
      rw [hz]
      exact fun w H' ι' g' rs' rz => q1 _ H' ι' g' rs' (((ro.mono g1).mono g').set rz)
    · exact q1.elim
  · exact q.elim
theorem ds_for (hp : PassesOwn (model X.prog X.w) X.A X.env X.xe) (hc : X.calm = true) (hi : PI X tg i (iOf X.K W it)) (hg : PG X tg (gC X.K ct)) (hb : PSs X sts (tOfS X.K W g)) (hs : ∀ x, foldedSetIterable i X.env x = pure x) : PS X (.For tg i sts [] pos) (tOfS X.K W (sFor it ct g)) := by
  refine PS.imp (ps_for hp hc hi hg hb hs) fun Q σ H ⟨ι, S, δ, rs, ro, q⟩ => ⟨ι, S, δ, rs, ro, ?_⟩
  refine (PostS.to (rel := JOk X.K) q ro).mono fun J H1 ⟨ι1, S1, x, g1, rs1, hJ, q1⟩ => ?_
  obtain ⟨items, gd⟩ := x
  refine ⟨fun n m σ' H' => ∃ ι2 S2 δ2, Gr X.K H1 ι1 H' ι2 ∧ RelS X.K H' ι2 S2 ∧ ROs X.K H' ι2 δ2 σ' ∧ m = items.length - n ∧ n ≤ items.length ∧ PostS X.K W ι2 H' (forL gd ct g (items.drop n) δ2 S2) Q,
    ⟨_, ι1, S1, δ, Gr.refl, rs1, ro.mono g1, rfl, Nat.zero_le _, q1⟩, ?_⟩
  rintro n m σ2 H2 ⟨ι2, S2, δ2, g2, rs2, ro2, rfl, hn, q2⟩
  by_cases hlt : n < items.length
  · right
    rw [List.drop_eq_getElem_cons hlt, forL] at q2
    split at q2
    · rename_i hgd
      have hj := (hJ n H2 ι2 S2 g2 rs2 hgd).1 items[n] (List.getElem?_eq_getElem hlt)
      refine ⟨hj.1, fun σ' H' => ∃ ι3 S3 δ3, Gr X.K H1 ι1 H' ι3 ∧ RelS X.K H' ι3 S3 ∧ ROs X.K H' ι3 δ3 σ' ∧ PostS X.K W ι3 H' (forL gd ct g (items.drop (n + 1)) δ3 S3) Q, fun σ' H' ⟨ι3, S3, δ3, a1, a2, a3, a4⟩ => ⟨_, by omega, ι3, S3, δ3, a1, a2, a3, rfl, hlt, a4⟩, fun xv H' y => ?_⟩
      obtain ⟨g3, rs3, rx⟩ := hj.2 xv H' y
      have q3 := PostS.later g3 q2
      split at q3
      · exact q3.elim
      · rename_i δ3 hb3
        refine gC_ok hb3 rx (ro2.mono g3) fun σ3 ro3 _ => ⟨ι2, S2, δ3, rs3, ro3, ?_⟩
        have g23 := g2.trans g3
        cases hr : g δ3 S2 with
        | nx δ' S' => rw [hr] at q3; exact fun σ' H4 ι4 g4 rs4 ro4 => ⟨ι4, S', δ', g23.trans g4, rs4, ro4, PostS.later g4 q3⟩
        | ct δ' S' => rw [hr] at q3; exact fun σ' H4 ι4 g4 rs4 ro4 => ⟨ι4, S', δ', g23.trans g4, rs4, ro4, PostS.later g4 q3⟩
        | bk δ' S' => rw [hr] at q3; exact q3
        | rt d S' => rw [hr] at q3; exact q3
        | exc δ' C fs S' => rw [hr] at q3; exact q3
        | bad => rw [hr] at q3; exact q3.elim
    · exact q2.elim
  · left
    have e : n = items.length := by omega
    subst e
    rw [List.drop_length, forL] at q2
    split at q2
    · rename_i hgd
      exact ⟨(hJ _ H2 ι2 S2 g2 rs2 hgd).2 (Nat.le_refl _), q2 σ2 H2 ι2 Gr.refl rs2 ro2⟩
    · exact q2.elim
theorem ds_while (hp : PassesOwn (model X.prog X.w) X.A X.env X.xe) (hc : PT X c (tOfT X.K W t)) (hb : PSs X sts (tOfS X.K W g)) : PS X (.While c sts [] pos) (tOfS X.K W (sWhile t g)) := by
  refine PS.imp (ps_while hp hc hb) fun Q σ H ⟨ι, S, δ, rs, ro, q⟩ => ?_
  have hne : sWhile t g δ S ≠ .bad := fun z => by rw [z] at q; exact q
  obtain ⟨n0, hn0⟩ := of_sWhile hne
  rw [← hn0] at q
  refine ⟨fun m σ' H' => ∃ ι2 S2 δ2, RelS X.K H' ι2 S2 ∧ ROs X.K H' ι2 δ2 σ' ∧ PostS X.K W ι2 H' (whN t g m δ2 S2) Q, ⟨n0, ι, S, δ, rs, ro, q⟩, ?_⟩
  rintro m σ2 H2 ⟨ι2, S2, δ2, rs2, ro2, q2⟩
  cases m with
  | zero => exact q2.elim
  | succ m =>
    refine ⟨ι2, S2, δ2, rs2, ro2, (PostS.to (rel := rB) q2 ro2).mono fun k H3 ⟨ι3, S3, k', g3, rs3, e, q3⟩ => ?_⟩
    have e : k' = k := e
    subst e
    cases k' with
    | false => exact q3 σ2 H3 ι3 Gr.refl rs3 (ro2.mono g3)
    | true =>
      simp only [if_true] at q3 ⊢
      refine ⟨fun σ' H' => ∃ ι4 S4 δ4, RelS X.K H' ι4 S4 ∧ ROs X.K H' ι4 δ4 σ' ∧ PostS X.K W ι4 H' (whN t g m δ4 S4) Q, fun σ' H' z => ⟨m, Nat.lt_succ_self m, z⟩, ι3, S3, δ2, rs3, ro2.mono g3, ?_⟩
      cases hr : g δ2 S3 with
      | nx δ' S' => rw [hr] at q3; exact fun σ' H4 ι4 g4 rs4 ro4 => ⟨ι4, S', δ', rs4, ro4, PostS.later g4 q3⟩
      | ct δ' S' => rw [hr] at q3; exact fun σ' H4 ι4 g4 rs4 ro4 => ⟨ι4, S', δ', rs4, ro4, PostS.later g4 q3⟩
      | bk δ' S' => rw [hr] at q3; exact q3
      | rt d S' => rw [hr] at q3; exact q3
      | exc δ' C fs S' => rw [hr] at q3; exact q3
      | bad => rw [hr] at q3; exact q3.elim
end
end DL
set_option Elab.async false
set_option linter.all false
set_option maxRecDepth 100000
set_option maxHeartbeats 2000000
/-! DInit: a class of errors of the text whose __init__ hands its arguments on to the base's and keeps them as fields. -/
namespace DL
open PySem PySem.W PySem.Calls PyProof.Rows PySem.HandSPX
open L2 (Vals RelO RelV V Room Mod relO_put)

def iArg (x : Str) (p : Pos) : Arg := { arg := x, annotation := none, pos := p }
/-- def __init__(self, f) or (self, f, g): super().__init__(f ..); self.f = f .. -/
structure IniPos where
  p : List Pos
def args1 (f : Str) (q : Nat → Pos) : Arguments := { posonlyargs := [], args := [iArg "self" (q 0), iArg f (q 1)], vararg := none, kwonlyargs := [], kw_defaults := [], kwarg := none, defaults := [] }
def args2 (f g : Str) (q : Nat → Pos) : Arguments := { posonlyargs := [], args := [iArg "self" (q 0), iArg f (q 1), iArg g (q 2)], vararg := none, kwonlyargs := [], kw_defaults := [], kwarg := none, defaults := [] }
def supS (q : Nat → Pos) (es : List PySem.Expr) : PySem.Stmt := .Expr (.Call (.Attribute (.Call (.Name "super" (q 3)) [] [] (q 4)) "__init__" (q 5)) es [] (q 6)) (q 7)
def fldS (f : Str) (a b c d : Pos) : PySem.Stmt := .Assign [.Attribute (.Name "self" a) f b] (.Name f c) d
def body1 (f : Str) (q : Nat → Pos) : List PySem.Stmt := [supS q [.Name f (q 8)], fldS f (q 10) (q 11) (q 12) (q 13)]
def body2 (f g : Str) (q : Nat → Pos) : List PySem.Stmt := [supS q [.Name f (q 8), .Name g (q 9)], fldS f (q 10) (q 11) (q 12) (q 13), fldS g (q 14) (q 15) (q 16) (q 17)]

/-- what the written part says of the class at C whose __init__, at fI, is that of the class at D -/
structure ExcT (prog : Program) (K : Frag) (C D fI : Addr) (names : List Str) (ar : Arguments) (bd : List PySem.Stmt) : Prop where
  cls : ∃ nm q N bs bm sn sub ab col dd k0 k1 k2 k3 k5, K.lookup C = some (excClassObj nm q C N bs bm true sn sub ab col dd k0 k1 k2 k3 k5 "ValueError.__new__") ∧ refsVE bm = true
  sa : findIn K (.ref C) "__setattr__" = some (some (.builtin "object.__setattr__"))
  noN : ∀ f ∈ names, findIn K (.ref C) f = some none
  iC : findIn K (.ref C) "__init__" = some (some (.ref fI))
  tC : typeIn K (.ref fI) = some (.type "function")
  fn : ∃ (qual : Str) (scope : Scope) (doc pm ct : Value) (an : Option Addr) (cda cc : Addr) (oc : Value) (od : Option Addr) (osl : Array (Option Value)) (ccl : Value) (cdd : Option Addr) (vs : Array Value) (ccs : Array (Option Value)) (file : Str) (tf : Tok) (cl : Value) (cld : Option Addr) (csl : Array (Option Value)) (cdD : ClassData),
    K.lookup fI = some ⟨oc, od, .func (ksFn "__init__" qual ar bd scope .none .none doc pm an (.ref cda) ct cc), osl⟩ ∧ codeIn K (.ref cda) qual = true ∧
    K.lookup cda = some ⟨ccl, cdd, .fields vs, ccs⟩ ∧ vs[2]? = some (.str file tf) ∧ ((prog.main.file : Str) == file) = true ∧
    K.lookup cc = some ⟨cl, cld, .cell (some (.ref D)), csl⟩ ∧ clsIn K D = some cdD ∧
    scope.kind = .function ∧ scope.isCoroutine = false ∧ scope.isGenerator = false ∧ (∀ x ∈ scope.names, x.2 ≠ .cell) ∧
    scope.names.lookup ("super" : Str) = some .globalImplicit ∧ scope.names.lookup ("__class__" : Str) = some .free ∧ scope.names.lookup ("self" : Str) = some .local ∧ ∀ f ∈ names, scope.names.lookup f = some .local
  hsub : mroIn K C (.ref D) = some true
  top : (prog.main.scope.names.lookup ("super" : Str)).isSome = false
  sup : ks_superIn K C D "__init__" = some (some (.builtin "ValueError.__init__"))
  opq : nsIn K cStatics "thirdparty.any" = some none
  isVE : subIn K (.ref C) (.type "ValueError") = some true

section
variable {prog : Program} {w : World} {A : Around} {E : Value → Shared → Prop} {s : Shared} {K : Frag} {mg mb : Str → Option Value} {C D fI x t0 cda cc L : Addr}
/-- super().__init__(..) within the __init__ of an error at x, the arguments laid anew -/
theorem super_init {qual : Str} {scope : Scope} {bd : List PySem.Stmt} {m : Str → Option Value} {q : Nat → Pos} {es : List PySem.Expr} {vs : List Value} {ar : Arguments} {doc pm ct : Value} {an : Option Addr} {oc : Value} {od : Option Addr} {osl : Array (Option Value)} {ccl : Value} {cdd : Option Addr} {fs : Array Value} {ccs : Array (Option Value)} {file : Str} {tf : Tok} {cl : Value} {cld : Option Addr} {csl : Array (Option Value)} {cdD : ClassData}
    {nm q' : Str} {N : Addr} {bs bm : List Value} {sn : List Str} {sub : List Value} {ab : Bool} {col : Option Bool} {dd : Option Addr} {k0 k1 k2 k3 k5 : Option Value} {Q : Flow → Shared → Prop}
    (hC : K.lookup C = some (excClassObj nm q' C N bs bm true sn sub ab col dd k0 k1 k2 k3 k5 "ValueError.__new__"))
    (X : K.In s.heap) (G : s.heap.Ns mainGlobals mg) (Bn : s.heap.Ns builtinsNs mb) (hmg : mg "super" = none) (hmb : mb "super" = some (.type "super"))
    (hf : K.lookup fI = some ⟨oc, od, .func (ksFn "__init__" qual ar bd scope .none .none doc pm an (.ref cda) ct cc), osl⟩) (har : (ar.posonlyargs ++ ar.args).head? = some (iArg "self" (q 0)))
    (hcode : K.lookup cda = some ⟨ccl, cdd, .fields fs, ccs⟩) (hfs : fs[2]? = some (.str file tf)) (hfile : ((prog.main.file : Str) == file) = true)
    (hcell : K.lookup cc = some ⟨cl, cld, .cell (some (.ref D)), csl⟩) (hD : clsIn K D = some cdD) (hsub : mroIn K C (.ref D) = some true) (htop : (prog.main.scope.names.lookup ("super" : Str)).isSome = false)
    (hsup : ks_superIn K C D "__init__" = some (some (.builtin "ValueError.__init__"))) (hopq : nsIn K cStatics "thirdparty.any" = some none) (hVE : subIn K (.ref C) (.type "ValueError") = some true)
    (hk : scope.kind = .function) (hks : scope.names.lookup ("super" : Str) = some .globalImplicit) (hkc : scope.names.lookup ("__class__" : Str) = some .free) (hka : scope.names.lookup ("self" : Str) = some .local)
    (hns : s.heap.Ns L m) (hself : m "self" = some (.ref x)) (hx : s.heap.get? x = some (excO C t0)) (hz : vs.length ≤ sizeLine)
    (hargs : ∀ (s₁ : Shared) (P : List Value → Shared → Prop), (∀ b o, s.heap.get? b = some o → s₁.heap.get? b = some o) → P vs s₁ → wpAny (model prog w) A (spliced (backTo (q 6) (starEach es (ksEnv qual scope L fI (.ref cda) cc)))) P E s₁)
    {pl : Sem Bool} (he : eval (.Call (.Attribute (.Call (.Name "super" (q 3)) [] [] (q 4)) "__init__" (q 5)) es [] (q 6)) (ksEnv qual scope L fI (.ref cda) cc) = (do
      let ov ← attributeBase (.Call (.Name "super" (q 3)) [] [] (q 4)) "__init__" (ksEnv qual scope L fI (.ref cda) cc) (eval (.Call (.Name "super" (q 3)) [] [] (q 4)) (ksEnv qual scope L fI (.ref cda) cc))
      standAt (q 5).atName
      let (f, first) ← holding [ov] (getMethod ov "__init__" pl)
      callWith (q 6) f first (backTo (q 6) (starEach es (ksEnv qual scope L fI (.ref cda) cc))) []))
    (hst : ∃ e r, es = e :: r ∧ starEach es (ksEnv qual scope L fI (.ref cda) cc) = (false, eval e (ksEnv qual scope L fI (.ref cda) cc)) :: starEach r (ksEnv qual scope L fI (.ref cda) cc) ∧ (backTo (q 6) (starEach r (ksEnv qual scope L fI (.ref cda) cc))).any (·.1) = false)
    (hq : ∀ h' tk t1, (∀ b o, b ≠ x → s.heap.get? b = some o → h'.get? b = some o) → h'.get? x = some (excO C t1) → Q .next { s with heap := h', toks := tk }) :
    _root_.PySem.wpAt (model prog w) A (.func bd (ksEnv qual scope L fI (.ref cda) cc)) (exec (supS q es) (ksEnv qual scope L fI (.ref cda) cc)) Q E s := by
  obtain ⟨e, r, rfl, hs1, hs2⟩ := hst
  obtain ⟨hp, g, d, t, os⟩ := s
  have hX : K.In hp := X
  obtain ⟨oD, hD1, hD2⟩ : ∃ oD, hp.get? D = some oD ∧ oD.data = .cls cdD := by
    unfold clsIn at hD
    split at hD
    · rename_i c d cd' sl ho
      cases hD
      exact ⟨_, hX _ _ ho, rfl⟩
    · cases hD
  have I : InstAt hp x (excO C t0) C none := ⟨hx, rfl, rfl, trivial⟩
  refine ks_wpAt_Expr_any ?_ (by simp [interactive, hk]) rfl
  refine ks_wpAt_MethodCall ?_ he
  refine ks_wpAt_super_base (env := ksEnv qual scope L fI (.ref cda) cc) (show scope.names.lookup _ = _ from hks) (show scope.names.lookup _ = _ from hkc) (by decide) rfl (hX _ _ hf) rfl har rfl (hX _ _ hcode) rfl hfs hfile htop ?_
  refine ks_loadName_global hk hks (loadGlobal_builtin (env := ksEnv qual scope L fI (.ref cda) cc) G hmg Bn hmb ⟨rfl, ?_⟩)
  refine wpAny_loadName_free hk hkc rfl ⟨_, hX _ _ hcell, rfl⟩ ?_
  refine wpAny_loadName_local (env := ksEnv qual scope L fI (.ref cda) cc) (name := "self") hk hka hns hself ?_
  refine ks_wpAny_isType_cls hD1 hD2 ⟨rfl, ?_⟩
  refine ks_wpAny_call_super hD1 hD2 hx rfl (fun c z => by cases z) (looks_mroIn hX hsub) (fun h1 e1 k1 => ?_)
  -- the bound __init__
  have X1 : K.In h1 := hX.keeps k1
  cases hc : clsIn K C with
  | none => unfold ks_superIn at hsup; rw [hc] at hsup; cases hsup
  | some cd =>
    unfold ks_superIn at hsup
    rw [hc] at hsup
    have hI0 : Looks (model prog w) hp (isInstance (.ref x) (.type "ValueError")) true := I.type.andThen (looks_subIn hX hVE)
    have hI : Looks (model prog w) h1 (isInstance (.ref x) (.type "ValueError")) true := hI0.keeps k1
    refine kxs_getMethod kxs_ValueError e1 (looks_opaque X1 hopq) (l₀ := cd.mro) (fun A' Q' E' s' k' z => wpAny_bind ((looks_clsIn X1 hc) A' _ E' s' k' (wpAny_pure z))) rfl X1 hsup hI (ks_ne hX I hc) (by decide) ?_
    generalize hu : h1.objs.size = u
    have k2 : ∀ b o, hp.get? b = some o → (h1.push (kxs_mw "ValueError.__init__" x)).get? b = some o := fun b o z => Heap.get?_push_of_some _ (k1 b o z)
    have e2 : (h1.push (kxs_mw "ValueError.__init__" x)).get? u = some (kxs_mw "ValueError.__init__" x) := by rw [← hu]; exact Heap.get?_push_size _ rfl
    have step : ∀ (s₁ : Shared), s₁ = ⟨h1.push (kxs_mw "ValueError.__init__" x), g, d, t + 1, os⟩ → wpAny (model prog w) A (spliced (backTo (q 6) (starEach (e :: r) (ksEnv qual scope L fI (.ref cda) cc)))) (fun vs' s₂ => KxsAt "ValueError.__init__" u x s₂.heap ∧ wpAny (model prog w) A (call (.ref u) vs') (fun _ => Q .next) E s₂) E s₁ := by
      rintro _ rfl
      refine hargs _ _ k2 ⟨e2, ?_⟩
      -- the call
      refine wpAny_call (codeAny_of_tree ?_)
      show wpAny _ A.in1 (callAny (.ref u) ⟨vs, []⟩) _ _ _
      simp only [callAny]
      refine wpAny_bind (wpAny_load e2 ?_)
      simp only [kxs_mw, show (Value.type "method-wrapper" == Value.type "method" || Value.type "method-wrapper" == Value.type "builtin_function_or_method" || Value.type "method-wrapper" == Value.type "method-wrapper") = true by decide, if_true]
      refine KFB.if_so (by decide) ?_
      have FB := PySem.F.excBase_ValueError
      refine wpAny_bind (check_bound_init FB.toExcCallFacts (k2 _ _ (hX _ _ hC)) (k2 _ _ hx) rfl ?_)
      refine wpAny_bind (wpAny_pure (wpAny_pure ?_))
      refine ⟨plainId_quiet FB.init.plain _, codeAny_builtin FB.initEntry ?_⟩
      exact exc_init_tree (cls := .ref C) (t0 := t0) (dv := none) (c2 := .none) (c3 := .none) (b4 := .bool false) (k2 _ _ hx) hz fun h' kp e' _ => hq h' _ _ (fun b o hb z => kp b o hb (k2 b o z)) e'
    have fin := step _ rfl
    rw [hs1] at fin ⊢
    refine kxs_callWith (i := "ValueError.__init__") (x := x) (by show (false || (backTo (q 6) (starEach r _)).any (·.1)) = false; rw [hs2]; rfl) ?_
    exact evalArgs_plain fin
/-- what the __init__ leaves of the error at x: its own dict holds the fields -/
structure MadeE (h h' : Heap) (x C dx t1 : Addr) (mm : Str → Option Value) : Prop where
  keep : ∀ b o, b ≠ x → h.get? b = some o → h'.get? b = some o
  obj : h'.get? x = some { cls := .ref C, dict := some dx, data := .fields #[.ref t1, .none, .none, .none, .bool false, .none] }
  dnew : ∀ b o, h.get? b = some o → b ≠ dx
  dne : dx ≠ x
  ns : h'.Ns1 dx mm
theorem ld_name {env : Env} {m : Str → Option Value} {y : Str} {pos : Pos} {v : Value} {Q : Value → Shared → Prop} (hn : s.heap.Ns env.locals m) (hv : m y = some v) (hk : env.scope.kind = .function) (hl : env.kindOf y = some .local) (hd : (y == ("__debug__" : Str)) = false) (h : Q v s) :
    wpAny (model prog w) A (eval (.Name y pos) env) Q E s := wpAny_Name (wpAny_loadName_local hk hl hn hv h) hd
theorem ns_but {h1 h2 : Heap} {L x : Addr} {m : Str → Option Value} (hn : h1.Ns L m) (hx : L ≠ x) (k : ∀ b o, b ≠ x → h1.get? b = some o → h2.get? b = some o) : h2.Ns L m := by
  obtain ⟨oL, es, ep, hoL, r⟩ := hn
  exact ⟨oL, es, ep, k _ _ hx hoL, r⟩
theorem in_but {h1 h2 : Heap} {x : Addr} (X : K.In h1) (hx : K.lookup x = none) (k : ∀ b o, b ≠ x → h1.get? b = some o → h2.get? b = some o) : K.In h2 := fun a o e => k a o (fun z => by rw [z, hx] at e; cases e) (X a o e)
/-- self.f = f, the first one -/
theorem fld_first {env : Env} {m : Str → Option Value} {f : Str} {pa pb pc pd : Pos} {v : Value} {t1 : Addr} {Q : Flow → Shared → Prop}
    {nm q' : Str} {N : Addr} {bs bm : List Value} {sn : List Str} {sub : List Value} {ab : Bool} {col : Option Bool} {dd : Option Addr} {k0 k1 k2 k3 k5 : Option Value}
    (hC : K.lookup C = some (excClassObj nm q' C N bs bm true sn sub ab col dd k0 k1 k2 k3 k5 "ValueError.__new__")) (hbm : refsVE bm = true) (sa : findIn K (.ref C) "__setattr__" = some (some (.builtin "object.__setattr__"))) (hno : findIn K (.ref C) f = some none)
    (X : K.In s.heap) (hns : s.heap.Ns env.locals m) (hf : m f = some v) (hs : m "self" = some (.ref x)) (hk : env.scope.kind = .function) (lf : env.kindOf f = some .local) (ls : env.kindOf "self" = some .local) (hd : (f == ("__debug__" : Str)) = false)
    (hx : s.heap.get? x = some (excO C t1)) (hsw : swapsWith (.Name f pc) (some (.Attribute (.Name "self" pa) f pb)) pd.line env = pure false)
    (hq : ∀ h' tk dx, (∀ b o, b ≠ x → s.heap.get? b = some o → h'.get? b = some o) → s.heap.objs.size ≤ dx → dx ≠ x → h'.get? x = some { cls := .ref C, dict := some dx, data := .fields #[.ref t1, .none, .none, .none, .bool false, .none] } → h'.Ns1 dx (fun y => if y = f then some v else none) → Q .next { s with heap := h', toks := tk }) :
    wpAny (model prog w) A (exec (fldS f pa pb pc pd) env) Q E s := by
  have hcl : clsIn K C = some { name := nm, bases := bs, mro := .ref C :: bm, ns := N, qualname := q', hasDict := true, slotNames := sn, subclasses := sub, abstract := ab, collection := col, hasDel := false } := by unfold clsIn; rw [hC] <;> rfl
  refine plainObj_wpAny_Assign_Attribute (ld_name hns hf hk lf hd (ld_name hns hs hk ls (by decide) ?_)) hsw
  obtain ⟨hp, g, d, t, os⟩ := s
  refine set_plain X (ox := excO C t1) (od := none) ⟨hx, rfl, rfl, trivial⟩ sa ?_
  exact exc_osa X hx hcl (show refsVE (.ref C :: bm) = true from hbm) rfl hno fun h' tk dx k dn dne hx' hn => hq h' tk dx k dn dne hx' hn
/-- self.f = f, a further one -/
theorem fld_more {env : Env} {m : Str → Option Value} {f : Str} {pa pb pc pd : Pos} {v : Value} {t1 dx : Addr} {m0 : Str → Option Value} {nl : List Str} {Q : Flow → Shared → Prop}
    {nm q' : Str} {N : Addr} {bs bm : List Value} {sn : List Str} {sub : List Value} {ab : Bool} {col : Option Bool} {dd : Option Addr} {k0 k1 k2 k3 k5 : Option Value}
    (hC : K.lookup C = some (excClassObj nm q' C N bs bm true sn sub ab col dd k0 k1 k2 k3 k5 "ValueError.__new__")) (hbm : refsVE bm = true) (sa : findIn K (.ref C) "__setattr__" = some (some (.builtin "object.__setattr__"))) (hno : findIn K (.ref C) f = some none)
    (X : K.In s.heap) (hns : s.heap.Ns env.locals m) (hf : m f = some v) (hs : m "self" = some (.ref x)) (hk : env.scope.kind = .function) (lf : env.kindOf f = some .local) (ls : env.kindOf "self" = some .local) (hd : (f == ("__debug__" : Str)) = false)
    (hx : s.heap.get? x = some { cls := .ref C, dict := some dx, data := .fields #[.ref t1, .none, .none, .none, .bool false, .none] }) (hn : s.heap.Ns1 dx m0) (hw : Within m0 nl) (hz : nl.length ≤ 1000) (hsw : swapsWith (.Name f pc) (some (.Attribute (.Name "self" pa) f pb)) pd.line env = pure false)
    (hq : ∀ h' tk, (∀ b o, b ≠ dx → s.heap.get? b = some o → h'.get? b = some o) → h'.Ns1 dx (fun y => if y = f then some v else m0 y) → Q .next { s with heap := h', toks := tk }) :
    wpAny (model prog w) A (exec (fldS f pa pb pc pd) env) Q E s := by
  have hcl : clsIn K C = some { name := nm, bases := bs, mro := .ref C :: bm, ns := N, qualname := q', hasDict := true, slotNames := sn, subclasses := sub, abstract := ab, collection := col, hasDel := false } := by unfold clsIn; rw [hC] <;> rfl
  refine plainObj_wpAny_Assign_Attribute (ld_name hns hf hk lf hd (ld_name hns hs hk ls (by decide) ?_)) hsw
  obtain ⟨oD, _, _, hoD, _, _⟩ := hn.count hw
  obtain ⟨hp, g, d, t, os⟩ := s
  refine set_plain X (ox := { cls := .ref C, dict := some dx, data := .fields #[.ref t1, .none, .none, .none, .bool false, .none] }) (od := some oD) ⟨hx, rfl, rfl, hoD⟩ sa ?_
  exact PySem.OEX.osa_old X hx hn hw hz hcl (show refsVE (.ref C :: bm) = true from hbm) rfl hno fun h' tk k hn' => hq h' tk k hn'
theorem run_init1 {f : Str} {q : Nat → Pos} {v : Value} {R : Result → Shared → Prop} (T : ExcT prog K C D fI [f] (args1 f q) (body1 f q)) (X : K.In s.heap) (G : s.heap.Ns mainGlobals mg) (Bn : s.heap.Ns builtinsNs mb) (hmg : mg "super" = none) (hmb : mb "super" = some (.type "super")) (hlim : s.heap.NoLimit)
    (hx : s.heap.get? x = some (excO C t0)) (hxK : K.lookup x = none) (hd : A.depth < recursionLimit) (hfd : (f == ("__debug__" : Str)) = false) (hfs : f ≠ ("self" : Str))
    (hb : ∀ qual scope doc pm an cda ct cc, bindArgs (ksFn "__init__" qual (args1 f q) (body1 f q) scope .none .none doc pm an (.ref cda) ct cc) ⟨[.ref x, v], []⟩ = pure [(("self" : Str), Value.ref x), (f, v)])
    (he : ∀ env : Env, ∃ pl, eval (.Call (.Attribute (.Call (.Name "super" (q 3)) [] [] (q 4)) "__init__" (q 5)) [.Name f (q 8)] [] (q 6)) env = (do
      let ov ← attributeBase (.Call (.Name "super" (q 3)) [] [] (q 4)) "__init__" env (eval (.Call (.Name "super" (q 3)) [] [] (q 4)) env)
      standAt (q 5).atName
      let (f', first) ← holding [ov] (getMethod ov "__init__" pl)
      callWith (q 6) f' first (backTo (q 6) (starEach [.Name f (q 8)] env)) []))
    (hsw : ∀ env, swapsWith (.Name f (q 12)) (some (.Attribute (.Name "self" (q 10)) f (q 11))) (q 13).line env = pure false)
    (hR : ∀ h' tk dx t1, MadeE s.heap h' x C dx t1 (fun y => if y = f then some v else none) → R (.ok (.ret .none)) { s with heap := h', toks := tk }) : codeAny (model prog w) A (.call (.ref fI) ⟨[.ref x, v], []⟩) R s := by
  obtain ⟨nm, q', N, bs, bm, sn, sub, ab, col, dd, k0, k1, k2, k3, k5, hC, hbm⟩ := T.cls
  obtain ⟨qual, scope, doc, pm, ct, an, cda, cc, oc, od, osl, ccl, cdd, fs, ccs, file, tf, cl, cld, csl, cdD, hf, hcd, hcode, hfs2, hfile, hcell, hD, hk, hco, hgen, hnc, hks, hkc, hka, hkf⟩ := T.fn
  have hkf := hkf f (by simp)
  have hsf : (("self" : Str) == f) = false := by simpa using fun e => hfs e.symm
  refine ks_codeAny_call_defAt (fd := ksFn "__init__" qual (args1 f q) (body1 f q) scope .none .none doc pm an (.ref cda) ct cc) (body := body1 f q) (binds := [(("self" : Str), Value.ref x), (f, v)]) hd (X _ _ hf) rfl hlim (codeRec_of X hcd) rfl (BindsTo.of_eq (hb ..)) hnc (fun y hy => ?_) (fun h₀ hns hk₀ => ?_) hco hgen hk
  · simp only [List.mem_cons, List.not_mem_nil, or_false] at hy
    rcases hy with rfl | rfl
    · exact hka
    · exact hkf
  have hXL : s.heap.objs.size ≠ x := fun z => by
    have := Heap.lt_size hx
    rw [z] at this
    exact absurd this (Nat.lt_irrefl _)
  generalize hL : s.heap.objs.size = L at hns hXL ⊢
  have hns : h₀.Ns L (fun y => List.lookup y [(f, v), (("self" : Str), Value.ref x)]) := hns
  have hx0 := hk₀ _ _ hx
  have lf : (fun y => List.lookup y [(f, v), (("self" : Str), Value.ref x)]) f = some v := by simp [List.lookup]
  have ls : (fun y => List.lookup y [(f, v), (("self" : Str), Value.ref x)]) "self" = some (.ref x) := by
    show List.lookup ("self" : Str) [(f, v), (("self" : Str), Value.ref x)] = _
    rw [List.lookup_cons, hsf]
    simp [List.lookup]
  show _root_.PySem.wpAt _ (A.deeper (ksEnv qual scope L fI (.ref cda) cc)) (.func _ (ksEnv qual scope L fI (.ref cda) cc)) (execs (body1 f q) (ksEnv qual scope L fI (.ref cda) cc)) _ _ _
  obtain ⟨pl, he⟩ := he (ksEnv qual scope L fI (.ref cda) cc)
  refine ks_wpAt_execs_cons ?_
  refine super_init (s := { s with heap := h₀, toks := s.toks + 2 }) (vs := [v]) (mb := mb) (mg := mg) hC (X.keeps hk₀) (G.keeps hk₀) (Bn.keeps hk₀) hmg hmb hf rfl hcode hfs2 hfile hcell hD T.hsub T.top T.sup T.opq T.isVE hk hks hkc hka hns ls hx0 (by rw [sizeLine_eq]; exact (by decide : 1 ≤ 16777216)) (fun s₁ P kk hP => ?_) he ⟨_, _, rfl, rfl, rfl⟩ (fun h1 tk1 t1 kk1 e1 => ?_)
  · exact Calls.spliced_cons (ld_name (env := ksEnv qual scope L fI (.ref cda) cc) (hns.keeps kk) lf hk hkf hfd (Calls.spliced_nil hP))
  · have ns1 := ns_but hns hXL kk1
    have X1 : K.In h1 := in_but (X.keeps hk₀) hxK kk1
    refine ks_wpAt_execs_cons (_root_.PySem.wpAt_of_wpAny ?_)
    refine fld_first (s := { s with heap := h1, toks := tk1 }) (env := ksEnv qual scope L fI (.ref cda) cc) hC hbm T.sa (T.noN f (by simp)) X1 ns1 lf ls hk hkf hka hfd e1 (hsw _) fun h2 tk2 dx kk2 dn dne e2 n2 => ?_
    refine _root_.PySem.wpAt_of_wpAny (wpAny_pure ?_)
    refine hR h2 tk2 dx t1 ⟨fun b o hb hbo => kk2 b o hb (kk1 b o hb (hk₀ b o hbo)), e2, fun b o hbo => ?_, dne, n2⟩
    by_cases hbx : b = x
    · rw [hbx]; exact dne.symm
    · exact Nat.ne_of_lt (Nat.lt_of_lt_of_le (Heap.lt_size (kk1 b o hbx (hk₀ b o hbo))) dn)
theorem run_init2 {f g : Str} {q : Nat → Pos} {v v' : Value} {R : Result → Shared → Prop} (T : ExcT prog K C D fI [f, g] (args2 f g q) (body2 f g q)) (X : K.In s.heap) (G : s.heap.Ns mainGlobals mg) (Bn : s.heap.Ns builtinsNs mb) (hmg : mg "super" = none) (hmb : mb "super" = some (.type "super")) (hlim : s.heap.NoLimit)
    (hx : s.heap.get? x = some (excO C t0)) (hxK : K.lookup x = none) (hd : A.depth < recursionLimit) (hfd : (f == ("__debug__" : Str)) = false) (hgd : (g == ("__debug__" : Str)) = false) (hfs : f ≠ ("self" : Str)) (hgs : g ≠ ("self" : Str)) (hfg : f ≠ g)
    (hb : ∀ qual scope doc pm an cda ct cc, bindArgs (ksFn "__init__" qual (args2 f g q) (body2 f g q) scope .none .none doc pm an (.ref cda) ct cc) ⟨[.ref x, v, v'], []⟩ = pure [(("self" : Str), Value.ref x), (f, v), (g, v')])
    (he : ∀ env : Env, ∃ pl, eval (.Call (.Attribute (.Call (.Name "super" (q 3)) [] [] (q 4)) "__init__" (q 5)) [.Name f (q 8), .Name g (q 9)] [] (q 6)) env = (do
      let ov ← attributeBase (.Call (.Name "super" (q 3)) [] [] (q 4)) "__init__" env (eval (.Call (.Name "super" (q 3)) [] [] (q 4)) env)
      standAt (q 5).atName
      let (f', first) ← holding [ov] (getMethod ov "__init__" pl)
      callWith (q 6) f' first (backTo (q 6) (starEach [.Name f (q 8), .Name g (q 9)] env)) []))
    (hsw : ∀ env, swapsWith (.Name f (q 12)) (some (.Attribute (.Name "self" (q 10)) f (q 11))) (q 13).line env = pure false)
    (hsw2 : ∀ env, swapsWith (.Name g (q 16)) (some (.Attribute (.Name "self" (q 14)) g (q 15))) (q 17).line env = pure false)
    (hR : ∀ h' tk dx t1, MadeE s.heap h' x C dx t1 (fun y => if y = g then some v' else if y = f then some v else none) → R (.ok (.ret .none)) { s with heap := h', toks := tk }) : codeAny (model prog w) A (.call (.ref fI) ⟨[.ref x, v, v'], []⟩) R s := by
  obtain ⟨nm, q', N, bs, bm, sn, sub, ab, col, dd, k0, k1, k2, k3, k5, hC, hbm⟩ := T.cls
  obtain ⟨qual, scope, doc, pm, ct, an, cda, cc, oc, od, osl, ccl, cdd, fs, ccs, file, tf, cl, cld, csl, cdD, hf, hcd, hcode, hfs2, hfile, hcell, hD, hk, hco, hgen, hnc, hks, hkc, hka, hkf⟩ := T.fn
  have hkg := hkf g (by simp)
  have hkf := hkf f (by simp)
  have hsg : (("self" : Str) == g) = false := by simpa using fun e => hgs e.symm
  have hfg' : (f == g) = false := by simpa using hfg
  have hsf : (("self" : Str) == f) = false := by simpa using fun e => hfs e.symm
  refine ks_codeAny_call_defAt (fd := ksFn "__init__" qual (args2 f g q) (body2 f g q) scope .none .none doc pm an (.ref cda) ct cc) (body := body2 f g q) (binds := [(("self" : Str), Value.ref x), (f, v), (g, v')]) hd (X _ _ hf) rfl hlim (codeRec_of X hcd) rfl (BindsTo.of_eq (hb ..)) hnc (fun y hy => ?_) (fun h₀ hns hk₀ => ?_) hco hgen hk
  · simp only [List.mem_cons, List.not_mem_nil, or_false] at hy
    rcases hy with rfl | rfl | rfl
    · exact hka
    · exact hkf
    · exact hkg
  have hXL : s.heap.objs.size ≠ x := fun z => by
    have := Heap.lt_size hx
    rw [z] at this
    exact absurd this (Nat.lt_irrefl _)
  generalize hL : s.heap.objs.size = L at hns hXL ⊢
  have hns : h₀.Ns L (fun y => List.lookup y [(g, v'), (f, v), (("self" : Str), Value.ref x)]) := hns
  have hx0 := hk₀ _ _ hx
  have lf : (fun y => List.lookup y [(g, v'), (f, v), (("self" : Str), Value.ref x)]) f = some v := by simp [List.lookup, hfg']
  have lg : (fun y => List.lookup y [(g, v'), (f, v), (("self" : Str), Value.ref x)]) g = some v' := by simp [List.lookup]
  have ls : (fun y => List.lookup y [(g, v'), (f, v), (("self" : Str), Value.ref x)]) "self" = some (.ref x) := by
    show List.lookup ("self" : Str) [(g, v'), (f, v), (("self" : Str), Value.ref x)] = _
    rw [List.lookup_cons, hsg]
    show List.lookup ("self" : Str) [(f, v), (("self" : Str), Value.ref x)] = _
    rw [List.lookup_cons, hsf]
    simp [List.lookup]
  show _root_.PySem.wpAt _ (A.deeper (ksEnv qual scope L fI (.ref cda) cc)) (.func _ (ksEnv qual scope L fI (.ref cda) cc)) (execs (body2 f g q) (ksEnv qual scope L fI (.ref cda) cc)) _ _ _
  obtain ⟨pl, he⟩ := he (ksEnv qual scope L fI (.ref cda) cc)
  refine ks_wpAt_execs_cons ?_
  refine super_init (s := { s with heap := h₀, toks := s.toks + 3 }) (vs := [v, v']) (mb := mb) (mg := mg) hC (X.keeps hk₀) (G.keeps hk₀) (Bn.keeps hk₀) hmg hmb hf rfl hcode hfs2 hfile hcell hD T.hsub T.top T.sup T.opq T.isVE hk hks hkc hka hns ls hx0 (by rw [sizeLine_eq]; exact (by decide : 2 ≤ 16777216)) (fun s₁ P kk hP => ?_) he ⟨_, _, rfl, rfl, rfl⟩ (fun h1 tk1 t1 kk1 e1 => ?_)
  · exact Calls.spliced_cons (ld_name (env := ksEnv qual scope L fI (.ref cda) cc) (hns.keeps kk) lf hk hkf hfd (Calls.spliced_cons (ld_name (env := ksEnv qual scope L fI (.ref cda) cc) (hns.keeps kk) lg hk hkg hgd (Calls.spliced_nil hP))))
  · have ns1 := ns_but hns hXL kk1
    have X1 : K.In h1 := in_but (X.keeps hk₀) hxK kk1
    refine ks_wpAt_execs_cons (_root_.PySem.wpAt_of_wpAny ?_)
    refine fld_first (s := { s with heap := h1, toks := tk1 }) (env := ksEnv qual scope L fI (.ref cda) cc) hC hbm T.sa (T.noN f (by simp)) X1 ns1 lf ls hk hkf hka hfd e1 (hsw _) fun h2 tk2 dx kk2 dn dne e2 n2 => ?_
    have ns2 := ns_but ns1 hXL kk2
    have X2 : K.In h2 := in_but X1 hxK kk2
    have w2 : Within (fun y => if y = f then some v else none) [f] := fun y hy => by
      by_cases e : y = f
      · simp [e]
      · exact absurd (if_neg e) hy
    obtain ⟨oD, _, _, hoD, _, _⟩ := n2.count w2
    have hdK : K.lookup dx = none := by
      cases hz : K.lookup dx with
      | none => rfl
      | some o =>
        have : h1.get? dx = some o := X1 _ _ hz
        exact absurd (Heap.lt_size this) (Nat.not_lt_of_le dn)
    have hxd : x ≠ dx := dne.symm
    refine ks_wpAt_execs_cons (_root_.PySem.wpAt_of_wpAny ?_)
    refine fld_more (s := { s with heap := h2, toks := tk2 }) (env := ksEnv qual scope L fI (.ref cda) cc) (nl := [f]) hC hbm T.sa (T.noN g (by simp)) X2 ns2 lg ls hk hkg hka hgd e2 n2 w2 (show 1 ≤ 1000 by decide) (hsw2 _) fun h3 tk3 kk3 n3 => ?_
    refine _root_.PySem.wpAt_of_wpAny (wpAny_pure ?_)
    refine hR h3 tk3 dx t1 ⟨fun b o hb hbo => ?_, kk3 _ _ hxd e2, fun b o hbo => ?_, dne, n3⟩
    · have h1b := kk1 b o hb (hk₀ b o hbo)
      have : b ≠ dx := Nat.ne_of_lt (Nat.lt_of_lt_of_le (Heap.lt_size h1b) dn)
      exact kk3 b o this (kk2 b o hb h1b)
    by_cases hbx : b = x
    · rw [hbx]; exact dne.symm
    · exact Nat.ne_of_lt (Nat.lt_of_lt_of_le (Heap.lt_size (kk1 b o hbx (hk₀ b o hbo))) dn)
end

section
variable {prog : Program} {w : World} {K : Frag} {mg : Str → Option Value} {base : Heap} {C D fI : Addr}
/-- what is known of one class of errors with one field -/
structure IniT (prog : Program) (K : Frag) (mg : Str → Option Value) (C D fI : Addr) (names : List Str) (ar : Arguments) (bd : List PySem.Stmt) : Prop where
  tx : ExcT prog K C D fI names ar bd
  kC : keepIn K (.ref C) = true
  exC : subIn K (.ref C) (.type "BaseException") = some true
  tyC : typeIn K (.ref C) = some (.type "type")
  sup : mg "super" = none
theorem exg1 {f : Str} {q : Nat → Pos} (T : IniT prog K mg C D fI [f] (args1 f q) (body1 f q)) (hfd : (f == ("__debug__" : Str)) = false) (hfs : f ≠ ("self" : Str))
    (hb : ∀ qual scope doc pm an cda ct cc x v, bindArgs (ksFn "__init__" qual (args1 f q) (body1 f q) scope .none .none doc pm an (.ref cda) ct cc) ⟨[.ref x, v], []⟩ = pure [(("self" : Str), Value.ref x), (f, v)])
    (he : ∀ env : Env, ∃ pl, eval (.Call (.Attribute (.Call (.Name "super" (q 3)) [] [] (q 4)) "__init__" (q 5)) [.Name f (q 8)] [] (q 6)) env = (do
      let ov ← attributeBase (.Call (.Name "super" (q 3)) [] [] (q 4)) "__init__" env (eval (.Call (.Name "super" (q 3)) [] [] (q 4)) env)
      standAt (q 5).atName
      let (f', first) ← holding [ov] (getMethod ov "__init__" pl)
      callWith (q 6) f' first (backTo (q 6) (starEach [.Name f (q 8)] env)) []))
    (hsw : ∀ env, swapsWith (.Name f (q 12)) (some (.Attribute (.Name "self" (q 10)) f (q 11))) (q 13).line env = pure false) : ExcG prog w K mg base C [f] := by
  refine ⟨T.kC, T.exC, T.tyC, by simp, fun A s us vs Q E hr M hbs hl rv hQ => ?_⟩
  obtain ⟨nm, q', N, bs, bm, sn, sub, ab, col, dd, k0, k1, k2, k3, k5, hC, hbm⟩ := T.tx.cls
  obtain ⟨mb, hB, hb2⟩ := M.blt
  match us, hl with
  | [v], _ =>
    cases rv with
    | cons rv rn =>
      cases rn
      obtain ⟨hp, g, dr, tk, os⟩ := s
      have X : K.In hp := M.kin.keeps hbs
      have kk : ∀ b o, hp.get? b = some o → ((hp.push (kdv_tup [v])).push (excO C hp.objs.size)).get? b = some o := fun b o e => Heap.get?_push_of_some _ (Heap.get?_push_of_some _ e)
      have hget : ((hp.push (kdv_tup [v])).push (excO C hp.objs.size)).get? (hp.objs.size + 1) = some (excO C hp.objs.size) := by heap_get
      have hxK : K.lookup (hp.objs.size + 1) = none := by
        cases hz : K.lookup (hp.objs.size + 1) with
        | none => rfl
        | some o => exact absurd (Heap.lt_size (X _ _ hz)) (Nat.not_lt_of_le (Nat.le_succ _))
      have hr1 := hr.make C [v] []
      refine wpAny_call (call_own F.excBase_ValueError (fun Y => refsVE_contains Y bm hbm) (X _ _ hC) (looks_findIn X T.tx.iC) (fun self => bind_fn X self T.tx.tC) (by rw [sizeLine_eq]; exact (by decide : 1 ≤ 16777216))
        (run_init1 (s := ⟨(hp.push (kdv_tup [v])).push (excO C hp.objs.size), g, dr, tk, os⟩) (mb := mb) T.tx (X.keeps kk) ((M.glob.keeps hbs).keeps kk) ((hB.keeps hbs).keeps kk) T.sup ((hb2 _ (by decide)).trans PyProof.Rows.Boot.«super») ((M.nolimit.keeps hbs).keeps kk) hget hxK hr1.depth hfd hfs (fun _ _ _ _ _ _ _ _ => hb _ _ _ _ _ _ _ _ _ _) he hsw fun h' tk' dx t1 m => ?_))
      refine ⟨rfl, hQ h' tk' (hp.objs.size + 1) dx t1 _ ⟨fun b o hbo => m.keep b o (fun z => ?_) (kk b o hbo), Nat.le_succ _, m.obj, fun b o hbo => m.dnew b o (kk b o hbo), m.dne, m.ns⟩ ?_⟩
      · have := Heap.lt_size hbo
        rw [z] at this
        exact absurd this (Nat.not_lt_of_le (Nat.le_succ _))
      · exact relO_put (fs := []) rv fun g => True.intro
theorem exg2 {f g : Str} {q : Nat → Pos} (T : IniT prog K mg C D fI [f, g] (args2 f g q) (body2 f g q)) (hfd : (f == ("__debug__" : Str)) = false) (hgd : (g == ("__debug__" : Str)) = false) (hfs : f ≠ ("self" : Str)) (hgs : g ≠ ("self" : Str)) (hfg : f ≠ g)
    (hb : ∀ qual scope doc pm an cda ct cc x v v', bindArgs (ksFn "__init__" qual (args2 f g q) (body2 f g q) scope .none .none doc pm an (.ref cda) ct cc) ⟨[.ref x, v, v'], []⟩ = pure [(("self" : Str), Value.ref x), (f, v), (g, v')])
    (he : ∀ env : Env, ∃ pl, eval (.Call (.Attribute (.Call (.Name "super" (q 3)) [] [] (q 4)) "__init__" (q 5)) [.Name f (q 8), .Name g (q 9)] [] (q 6)) env = (do
      let ov ← attributeBase (.Call (.Name "super" (q 3)) [] [] (q 4)) "__init__" env (eval (.Call (.Name "super" (q 3)) [] [] (q 4)) env)
      standAt (q 5).atName
      let (f', first) ← holding [ov] (getMethod ov "__init__" pl)
      callWith (q 6) f' first (backTo (q 6) (starEach [.Name f (q 8), .Name g (q 9)] env)) []))
    (hsw : ∀ env, swapsWith (.Name f (q 12)) (some (.Attribute (.Name "self" (q 10)) f (q 11))) (q 13).line env = pure false)
    (hsw2 : ∀ env, swapsWith (.Name g (q 16)) (some (.Attribute (.Name "self" (q 14)) g (q 15))) (q 17).line env = pure false) : ExcG prog w K mg base C [f, g] := by
  refine ⟨T.kC, T.exC, T.tyC, by simp, fun A s us vs Q E hr M hbs hl rv hQ => ?_⟩
  obtain ⟨nm, q', N, bs, bm, sn, sub, ab, col, dd, k0, k1, k2, k3, k5, hC, hbm⟩ := T.tx.cls
  obtain ⟨mb, hB, hb2⟩ := M.blt
  match us, hl with
  | [v, v'], _ =>
    cases rv with
    | cons rv rn =>
      cases rn with
      | cons rv' rn' =>
      cases rn'
      obtain ⟨hp, gg, dr, tk, os⟩ := s
      have X : K.In hp := M.kin.keeps hbs
      have kk : ∀ b o, hp.get? b = some o → ((hp.push (kdv_tup [v, v'])).push (excO C hp.objs.size)).get? b = some o := fun b o e => Heap.get?_push_of_some _ (Heap.get?_push_of_some _ e)
      have hget : ((hp.push (kdv_tup [v, v'])).push (excO C hp.objs.size)).get? (hp.objs.size + 1) = some (excO C hp.objs.size) := by heap_get
      have hxK : K.lookup (hp.objs.size + 1) = none := by
        cases hz : K.lookup (hp.objs.size + 1) with
        | none => rfl
        | some o => exact absurd (Heap.lt_size (X _ _ hz)) (Nat.not_lt_of_le (Nat.le_succ _))
      have hr1 := hr.make C [v, v'] []
      refine wpAny_call (call_own F.excBase_ValueError (fun Y => refsVE_contains Y bm hbm) (X _ _ hC) (looks_findIn X T.tx.iC) (fun self => bind_fn X self T.tx.tC) (by rw [sizeLine_eq]; exact (by decide : 2 ≤ 16777216))
        (run_init2 (s := ⟨(hp.push (kdv_tup [v, v'])).push (excO C hp.objs.size), gg, dr, tk, os⟩) (mb := mb) T.tx (X.keeps kk) ((M.glob.keeps hbs).keeps kk) ((hB.keeps hbs).keeps kk) T.sup ((hb2 _ (by decide)).trans PyProof.Rows.Boot.«super») ((M.nolimit.keeps hbs).keeps kk) hget hxK hr1.depth hfd hgd hfs hgs hfg (fun _ _ _ _ _ _ _ _ => hb _ _ _ _ _ _ _ _ _ _ _) he hsw hsw2 fun h' tk' dx t1 m => ?_))
      refine ⟨rfl, hQ h' tk' (hp.objs.size + 1) dx t1 _ ⟨fun b o hbo => m.keep b o (fun z => ?_) (kk b o hbo), Nat.le_succ _, m.obj, fun b o hbo => m.dnew b o (kk b o hbo), m.dne, m.ns⟩ ?_⟩
      · have := Heap.lt_size hbo
        rw [z] at this
        exact absurd this (Nat.not_lt_of_le (Nat.le_succ _))
      · exact relO_put (f := g) (fs := [(f, _)]) rv' (relO_put (fs := []) rv fun g => True.intro)
end
end DL
set_option Elab.async false
set_option linter.all false
set_option maxRecDepth 100000
set_option maxHeartbeats 2000000
/-! DTry: try with several clauses, each with a name. -/
namespace DL
open PySem L2

abbrev ClT := Value × Nat × (Addr → Value → Option Addr → TS)
/-- what the clauses wish, in turn -/
def wAll (K : PySem.W.Frag) (Wo : WX) (Z : Ends) : List ClT → WX
  | [] => Wo
  | (c, i, ts) :: more => fun cls d σ H => ∃ b, PySem.W.exmOne K cls c = some b ∧ (b = true → ∀ a, H a = none → ts a cls d { nx := fun σ2 H2 => Z.nx (σ2.set i none) H2, rt := Z.rt, bk := fun σ2 H2 => Z.bk (σ2.set i none) H2, ct := fun σ2 H2 => Z.ct (σ2.set i none) H2 } (σ.set i (some (.ref a))) H) ∧ (b = false → wAll K Wo Z more cls d σ H)
inductive ClsOk (X : Cx) : List ExceptHandler → List ClT → Prop
  | nil : ClsOk X [] []
  | cons {x n : Str} {c : Value} {i : Nat} {ts : Addr → Value → Option Addr → TS} {st : Stmt} {sts : List Stmt} {q1 q2 : Pos} {hds : List ExceptHandler} {l : List ClT} (hc : Names X x c) (hi : X.N[i]? = some n) (hl : X.env.kindOf n = some .local)
      (go : ∀ (a : Addr) (oe : Obj) (cls : Value) (d : Option Addr) (pn : List (Addr × Obj)), Zc cls d oe → (∃ vs, oe.data = .fields vs) → PSs (X.suite a ((a, oe) :: pn)) (st :: sts) (ts a cls d)) (r : ClsOk X hds l) :
      ClsOk X (.ExceptHandler (some (.Name x q1)) (some n) (st :: sts) q2 :: hds) ((c, i, ts) :: l)
section
variable {X : Cx} {bd : List Stmt} {hd : ExceptHandler} {hds : List ExceptHandler} {l : List ClT} {pos : Pos} {tb : WX → TS} {Wo : WX}
theorem ps_tryA (hs : X.stack = X.env :: X.outer) (hf : X.env.frame = some X.env.locals) (hN : X.N.Nodup) (tk : Takes X Wo)
    (hb : ∀ (W : WX) (pn : List (Addr × Obj)) (xe : Value → Shared → Prop), Takes (X.tr pn xe) W → PassesOwn (model X.prog X.w) X.A X.env xe → PSs (X.tr pn xe) bd (tb W))
    (hh : ClsOk X (hd :: hds) l) : PS X (.Try bd (hd :: hds) [] [] pos) (fun Z σ H => tb (wAll X.K Wo Z l) Z σ H) := by
  refine ⟨fun pins s σ H Z I0 start => ?_⟩
  have okX := I0.ok
  have frX : X.A.frames = some (X.env :: X.outer) := by rw [okX.frames, hs]
  refine wpAny_Try_except (wpAny_mono ((hb (wAll X.K Wo Z l) (X.pn ++ pins) (fun e s₁ => wpAny (model X.prog X.w) X.A (noteFrame e X.env) (fun _ s₂ => wpAny (model X.prog X.w) X.A (setFlight e none) (fun _ s₃ =>
    wpAny (model X.prog X.w) X.A (handleBy e X.env (hd :: hds)) (SP X pins Z) X.xe s₃) X.xe s₂) X.xe s₁) (fun u sE inE => ?_) PassesOwn.looking).run [] s σ H Z (I0.toTry _) start) (fun fl sT done => ?_) (fun _ _ y => y))
  · obtain ⟨ex, B, sI, pinsE, σE, HE, cls, d, rfl, IE', nb, up1, skyE, nex, osE, bareE, wE⟩ := inE
    have IE : Inv X pins σE HE sI := IE'.ofTry okX
    have skyE2 : Sky B (X.env :: X.outer) ex (Zc cls d) X.env.locals sE.heap := by rw [← hs]; exact skyE
    show wpAny (model X.prog X.w) X.A (noteFrame (.ref ex) X.env) _ _ _
    refine Sky.land Zc.steady frX hf skyE2 fun hL fL upL => ?_
    have IL : Inv X pins σE HE { sE with heap := hL } := IE.landed nb fL.1 (up1.trans upL) osE bareE
    obtain ⟨oL, vL, eL, zL, dL⟩ := fL.there
    have apart : ex ∉ frs (X.env :: X.outer) := fun isIn => by
      obtain ⟨_, o2, e2, no⟩ := fL.2.2.1.mem isIn
      rw [eL] at e2; cases e2
      exact no _ dL
    have apartL : ex ≠ X.env.locals := fun z => apart (List.mem_filterMap.mpr ⟨X.env, List.mem_cons_self, by rw [hf, z]⟩)
    have apartF : ex ∉ X.fs := fun isIn => by
      obtain ⟨en, hen, q⟩ := List.mem_filterMap.mp isIn
      exact apart (List.mem_filterMap.mpr ⟨en, List.mem_cons_of_mem _ hen, q⟩)
    have SL := IL.suite eL dL nex apartL apartF
    have walk : ∀ {hs2 : List ExceptHandler} {l2 : List ClT}, ClsOk X hs2 l2 → wAll X.K Wo Z l2 cls d σE HE →
        wpAny (model X.prog X.w) X.A (handleBy (.ref ex) X.env hs2) (SP X pins Z) X.xe { sE with heap := hL } := by
      intro hs2 l2 cl
      induction cl with
      | nil =>
        intro wish
        refine wpAny_handleBy_nil ?_
        obtain ⟨_, _, _, oX, vX, T, oT, tsT, atX, zX, dX, fieldX, _⟩ := id fL
        unfold PySem.passOn
        refine wpAny_bind (wpAny_field atX dX fieldX ?_)
        rw [if_neg (show ¬ ((Value.ref T == Value.none) = true) from by simp)]
        have last : wpAny (model X.prog X.w) X.A (setFlight (.ref ex) X.env.frame) (fun _ sF => wpAny (model X.prog X.w) X.A (throw (.ref ex) : Sem Flow) (SP X pins Z) X.xe sF) X.xe { sE with heap := hL } := by
          rw [hf]
          exact HandSPX.setFlight_upZ fL fun hF skyF upF => wpAny_throw (tk _ _ ⟨ex, B, sI, pins, σE, HE, cls, d, rfl, IE, nb, (up1.trans upL).trans upF, .inr (.inr (by rw [hs]; exact skyF)), nex, osE, bareE, wish⟩)
        first
          | exact wpAny_bind (wpAny_pure (wpAny_bind last))
          | exact wpAny_bind last
      | @cons x n c i ts st sts q1 q2 hds2 l3 hc hi hl go r ih =>
        intro ⟨b, isB, yes, no⟩
        refine wpAny_handleBy_cons (codeAny_handlers_test ?_) (by intro q; cases q)
        have LT : PySem.W.Looks (model X.prog X.w) hL (typeOf (.ref ex)) cls := fun _ _ _ _ kp q => wpAny_typeOf_ref (kp _ _ eL) (by rw [zL.1]; exact q)
        have LX := PySem.W.exm_one (M := model X.prog X.w) (IL.kIn) LT isB
        have ask : ∀ {Q : Value → Shared → Prop} {E : Value → Shared → Prop}, Q c { sE with heap := hL } → wpAny (model X.prog X.w) (X.A.mark (some (.ref ex))) (eval (.Name x q1) X.env) Q E { sE with heap := hL } := fun {Q E} q => by
          obtain ⟨h1, h2, h3 | ⟨h3, h4, h5⟩⟩ := hc
          · exact ld_glob (X := X.suite ex ((ex, oL) :: (X.pn ++ pins))) SL h1 h3 q h2
          · exact ld_blt (X := X.suite ex ((ex, oL) :: (X.pn ++ pins))) SL h1 h3 h4 q h5 h2
        refine ask (LX.here ?_)
        cases b with
        | true =>
          refine codeAny_handlers_suite_as (HandSPX.lands_againZ fL fun hM fM upM => ?_)
          have IM : Inv X pins σE HE { sE with heap := hM } := IE.landed nb fM.1 ((up1.trans upL).trans upM) osE bareE
          obtain ⟨oM, vM, eM, zM, dM⟩ := fM.there
          refine store_ok (X := X.suite ex ((ex, oM) :: (X.pn ++ pins))) (v := .ref ex) (IM.suite eM dM nex apartL apartF) hN hi (.inl hl) rfl (fun sS IS => ?_) (.inr hl)
          refine wpAny_mono ((go ex oM cls d (X.pn ++ pins) zM ⟨_, dM⟩).run [] sS _ HE _ IS (yes rfl ex nex)) (fun fl2 sU done2 => ?_) (fun _ _ z => False.elim z)
          have close : ∀ {σ6 : St} {H6 : Hp} {Q : Shared → Prop}, Inv (X.suite ex ((ex, oM) :: (X.pn ++ pins))) [] σ6 H6 sU → (∀ s7, Inv X pins (σ6.set i none) H6 s7 → Q s7) →
              wpAny (model X.prog X.w) X.A (do bindName X.env n .none; unbindBehindTheSuite X.env n q2) (fun _ s7 => Q s7) X.xe sU := fun {σ6 H6 Q} S6 hq => gone_ok (S6.unsuite okX) hN hi hl hq
          cases fl2 with
          | ret u =>
            obtain ⟨v6, σ6, H6, S6, r6, q6⟩ := done2
            exact close S6 fun s7 J7 => ⟨v6, _, H6, J7, r6, q6⟩
          | _ =>
            obtain ⟨σ6, H6, S6, q6⟩ := done2
            exact close S6 fun s7 J7 => ⟨_, H6, J7, q6⟩
        | false =>
          show wpAny _ X.A (handleBy (.ref ex) X.env hds2) _ _ _
          exact ih (no rfl)
    exact walk hh wE
  · cases fl with
    | next =>
      obtain ⟨σ2, H2, I2, q⟩ := done
      exact wpAny_execs_nil ⟨σ2, H2, I2.ofTry okX, q⟩
    | ret u =>
      obtain ⟨v, σ2, H2, I2, rv, q⟩ := done
      exact ⟨v, σ2, H2, I2.ofTry okX, rv, q⟩
    | _ =>
      obtain ⟨σ2, H2, I2, q⟩ := done
      exact ⟨σ2, H2, I2.ofTry okX, q⟩
end
end DL
set_option Elab.async false
set_option linter.all false
set_option maxRecDepth 100000
set_option maxHeartbeats 1000000
/-! DHand: what the suites of except clauses do. -/
namespace DL
open PySem L2

/-- which class is below which; which names are no attributes of a class -/
structure Orc where
  sb : Addr → Addr → Option Bool
  fd : Addr → Str → Bool
structure OrcOk (K : PySem.W.Frag) (O : Orc) : Prop where
  sb : ∀ C c b, O.sb C c = some b → PySem.W.exmOne K (.ref C) (.ref c) = some b ∧ PySem.W.kitOne K (.ref C) (.ref c) = some b ∧ ExcC K C
  fd : ∀ C f, O.fd C f = true → PySem.W.findIn K (.ref C) f = some none ∧ XfC K C
def clsOf (E : SE) (x : Str) : Option Addr := match glb E x with
  | some (.ex C _) => some C
  | some (.val (.gl C)) => some C
  | _ => none
def isIsi (E : SE) (x : Str) : Bool := match glb E x with
  | some (.bi b) => (match b.v with
    | .builtin id => id == "isinstance"
    | _ => false)
  | _ => false
def isCall : Expr → Bool
  | .Call .. => true
  | _ => false
def hC : Const → Option D
  | .none => some .non
  | .bool b => some (.bl b)
  | .int i => some (.int i)
  | .str x => some (.str x)
  | _ => none
def hF (O : Orc) (n : Str) (C : Addr) (fs : List (Str × D)) (f : Str) : Expr → Option D
  | .Name x _ => if x = n ∧ O.fd C f = true then fs.lookup f else none
  | _ => none
def hI (O : Orc) (E : SE) (n : Str) (C : Addr) (func : Expr) (args : List Expr) (kws : List Keyword) : Option D := match func, args, kws with
  | .Name g _, [.Name x _, .Name c _], [] => if x = n ∧ isIsi E g = true then (match clsOf E c with
    | some c' => (O.sb C c').map .bl
    | none => none) else none
  | _, _, _ => none
mutual
def hX (O : Orc) (E : SE) (n : Str) (C : Addr) (fs : List (Str × D)) : Expr → Option D
  | .Constant c _ _ => hC c
  | .Attribute o f _ => hF O n C fs f o
  | .Tuple es _ _ => if es.all noStar = true then (match hXs O E n C fs es with
    | some xs => if xs.length ≤ 1000 then some (.tup xs) else none
    | none => none) else none
  | .Call func args kws _ => hI O E n C func args kws
  | .IfExp c a b _ => if isCall c = true then (match hX O E n C fs c with
    | some (.bl true) => hX O E n C fs a
    | some (.bl false) => hX O E n C fs b
    | _ => none) else none
  | _ => none
def hXs (O : Orc) (E : SE) (n : Str) (C : Addr) (fs : List (Str × D)) : List Expr → Option (List D)
  | [] => some []
  | e :: es => match hX O E n C fs e, hXs O E n C fs es with
    | some x, some xs => some (x :: xs)
    | _, _ => none
end
/-- the state within a suite -/
structure HQ (K : PySem.W.Frag) (ι : List Addr) (S : SS) (i : Nat) (a : Addr) (d : Option Addr) (fs : List (Str × D)) (σ : St) (H : Hp) : Prop where
  rs : RelS K H ι S
  sl : σ[i]? = some (some (.ref a))
  xd : ∃ dd fs', d = some dd ∧ H dd = some (.xd fs') ∧ RF K H ι fs fs'
def tH (K : PySem.W.Frag) (i : Nat) (a : Addr) (d : Option Addr) (fs : List (Str × D)) (S : SS) (r : Option D) : TE := fun σ H Q => ∃ ι, HQ K ι S i a d fs σ H ∧ ∃ x, r = some x ∧ ∀ v H' ι', Gr K H ι H' ι' → HQ K ι' S i a d fs σ H' → RD K H' ι' x v → Q v H'
def tHs (K : PySem.W.Frag) (i : Nat) (a : Addr) (d : Option Addr) (fs : List (Str × D)) (S : SS) (r : Option (List D)) : TA := fun σ H Q => ∃ ι, HQ K ι S i a d fs σ H ∧ ∃ x, r = some x ∧ ∀ v H' ι', Gr K H ι H' ι' → HQ K ι' S i a d fs σ H' → RDs K H' ι' x v → Q v H'
section
variable {X : Cx} {W : WX} {E : SE} {O : Orc} {i : Nat} {n : Str} {a C : Addr} {oe : Obj} {d : Option Addr} {pn : List (Addr × Obj)} {fs : List (Str × D)} {S : SS}
theorem HQ.new {K : PySem.W.Frag} {ι : List Addr} {σ : St} {H : Hp} {p : Addr} {vs : List V} (h : HQ K ι S i a d fs σ H) (hp : H p = none) : HQ K ι S i a d fs σ (upd H p (.tup vs)) := by
  obtain ⟨rs, sl, dd, fs', e, hd, rf⟩ := h
  refine ⟨rs.new hp, sl, dd, fs', e, ?_, rf.mono (Gr.new hp)⟩
  rw [upd_ne (fun z => by rw [z, hp] at hd; cases hd)]
  exact hd
/-- isinstance of the caught error, that has fields -/
theorem call_isD {D' : Addr} (T : ExcC X.K D') (hz : Zc (.ref D') d oe) (hf : ∃ vs, oe.data = .fields vs) : CallR (X.suite a ((a, oe) :: pn)) (.builtin "isinstance")
    (fun xs H Q => ∃ (c : V) (cv : Value) (b : Bool) (dd : Addr) (ff : List (Str × V)), xs = [.ref a, c] ∧ (∀ u, RelV c u → u = cv) ∧ d = some dd ∧ H dd = some (.xd ff) ∧ PySem.W.kitOne X.K (.ref D') cv = some b ∧ Q (.bl b) H) := by
  rintro pins s σ H xs us Q I r ⟨c, cv, b, dd, ff, rfl, hcv, ed, edd, kit, q⟩
  cases r with
  | cons r1 r2 =>
    cases r2 with
    | cons r3 r4 =>
      cases r4
      cases r1
      obtain rfl := hcv _ r3
      subst ed
      have here := (I.pin (a, oe) (List.mem_append.mpr (.inl List.mem_cons_self))).1
      obtain ⟨vs, hv⟩ := hf
      have hx : ObjOk X.prog X.w H s.heap dd (.xd ff) := I.hok dd _ edd
      obtain ⟨mA, hns, _⟩ := hx
      obtain ⟨od, ho, _⟩ := lookIn_ns hns
      have J : PySem.W.InstAt s.heap a oe D' (some od) := ⟨here, hz.1, by unfold PySem.W.notCls; rw [hv] <;> rfl, by rw [hz.2]; exact ho⟩
      have hcl : (PySem.W.clsIn X.K D').isSome = true := by
        obtain ⟨cd, h1, _⟩ := PySem.W.any_some T.hd
        rw [h1] <;> rfl
      exact PySem.W.kia_one (PySem.W.kitx_exc hcl T.hg T.hk T.hs T.ha T.hn T.ht T.hm) I.kIn J kit (fun z => nomatch z) fun tk => ⟨.bl b, H, I.kept (t' := tk) fun _ _ z => z, rfl, q⟩
structure HCtx (X : Cx) (W : WX) (E : SE) (O : Orc) (i : Nat) (n : Str) : Prop where
  c : Ctx X W E
  o : OrcOk X.K O
  ix : X.N[i]? = some n
  lc : X.env.scope.names.lookup n = some .local
  n1 : (n == ("__debug__" : Str)) = false
  n2 : (n == ("__classdict__" : Str)) = false
theorem clsOf_ok (c : Ctx X W E) {x : Str} {D' : Addr} (h : clsOf E x = some D') : Gl X x ∧ (x == ("__debug__" : Str)) = false ∧ X.mg x = some (.ref D') := by
  unfold clsOf at h
  split at h
  · rename_i C' f' hb
    cases h
    obtain ⟨g, h1, h2, _⟩ := glb_ok c hb
    exact ⟨g, h1, h2⟩
  · rename_i C' hb
    cases h
    obtain ⟨g, h1, u, v, h2, h3, h4⟩ := glb_ok c hb
    have := h4 (fun _ => none) []
    unfold RD at this
    subst this
    obtain rfl : u = Value.ref D' := h3
    exact ⟨g, h1, h2⟩
  · cases h
theorem isIsi_ok (c : Ctx X W E) {x : Str} (h : isIsi E x = true) : Gl X x ∧ X.mg x = none ∧ bootBuiltins x = some (.builtin "isinstance") ∧ x ≠ "__name__" ∧ (x == ("__debug__" : Str)) = false := by
  unfold isIsi at h
  split at h
  · rename_i b hb
    obtain ⟨g, rfl, h2, h3⟩ := glb_ok c hb
    split at h
    · rename_i id e
      have : id = "isinstance" := by simpa using h
      subst this
      exact ⟨g, h2, by rw [← e]; exact h3.boot, h3.nm, h3.nd⟩
    · cases h
  · cases h
theorem pe_self (h : HCtx X W E O i n) {p : Pos} : PE (X.suite a ((a, oe) :: pn)) (.Name n p) (tVar i) := pe_var (X := X.suite a ((a, oe) :: pn)) h.ix (.inl h.lc) h.n1 h.n2
theorem tH_val {K : PySem.W.Frag} {ι : List Addr} {σ : St} {H : Hp} {x : D} {v : V} {Q : VK} (h : ∀ v H' ι', Gr K H ι H' ι' → HQ K ι' S i a d fs σ H' → RD K H' ι' x v → Q v H') (hq : HQ K ι S i a d fs σ H) (r : RD K H ι x v) : Q v H := h v H ι Gr.refl hq r
theorem pe_none {e : Expr} : PE (X.suite a ((a, oe) :: pn)) e (tH X.K i a d fs S none) := ⟨fun _ _ _ _ _ _ ⟨_, _, _, h, _⟩ => by cases h⟩
theorem h_c {e : Expr} {x : D} {v : V} (hp : PE (X.suite a ((a, oe) :: pn)) e (tC v)) (r : ∀ H ι, RD X.K H ι x v) : PE (X.suite a ((a, oe) :: pn)) e (tH X.K i a d fs S (some x)) :=
  PE.imp hp fun σ H Q ⟨ι, hq, x', e, k⟩ => by cases e; exact k v H ι Gr.refl hq (r H ι)
theorem hI_ok (h : HCtx X W E O i n) (hz : Zc (.ref C) d oe) (hf : ∃ vs, oe.data = .fields vs) {func : Expr} {args : List Expr} {kws : List Keyword} {p : Pos} : PE (X.suite a ((a, oe) :: pn)) (.Call func args kws p) (tH X.K i a d fs S (hI O E n C func args kws)) := by
  unfold hI
  split
  · rename_i g p1 x p2 c p3
    split
    · rename_i hc
      obtain ⟨rfl, h2⟩ := hc
      obtain ⟨g1, g2, g3, g4, g5⟩ := isIsi_ok h.c h2
      split
      · rename_i c' hcl
        obtain ⟨c1, c2, c3⟩ := clsOf_ok h.c hcl
        cases hs : O.sb C c' with
        | none => exact pe_none
        | some b =>
          obtain ⟨_, kit, T⟩ := h.o.sb C c' b hs
          have pa : PA (X.suite a ((a, oe) :: pn)) [.Name x p2, .Name c p3] _ := pa_cons (pe_self h) (pa_cons (pe_glob (X := X.suite a ((a, oe) :: pn)) (v := .ref c') c1 c3 rfl c2) pa_nil rfl) rfl
          refine PE.imp (pe_callB (call_isD T hz hf) g1 g2 g3 pa g4 g5 rfl rfl) fun σ H Q ⟨ι, hq, x', e, k⟩ => ?_
          cases e
          obtain ⟨dd, ff, ed, edd, rf⟩ := hq.xd
          exact ⟨_, hq.sl, _, _, b, dd, ff, rfl, fun u ru => ru, ed, edd, kit, k _ H ι Gr.refl hq RD.mbl⟩
      · exact pe_none
    · exact pe_none
  · exact pe_none
theorem hF_ok (h : HCtx X W E O i n) (hz : Zc (.ref C) d oe) (hf : ∃ vs, oe.data = .fields vs) {o : Expr} {f : Str} {p : Pos} : PE (X.suite a ((a, oe) :: pn)) (.Attribute o f p) (tH X.K i a d fs S (hF O n C fs f o)) := by
  unfold hF
  split
  · rename_i x p2
    split
    · rename_i hc
      obtain ⟨rfl, h2⟩ := hc
      obtain ⟨no, T⟩ := h.o.fd C f h2
      refine PE.imp (pe_xf T no hz hf (pe_self h) rfl) fun σ H Q ⟨ι, hq, x', e, k⟩ => ?_
      obtain ⟨dd, ff, ed, edd, rf⟩ := hq.xd
      obtain ⟨v, hv, rv⟩ := rf.lookup e
      exact ⟨_, hq.sl, rfl, rfl, dd, ff, v, ed, edd, hv, k v H ι Gr.refl hq rv⟩
    · exact pe_none
  · exact pe_none
mutual
theorem hX_ok (h : HCtx X W E O i n) (hz : Zc (.ref C) d oe) (hf : ∃ vs, oe.data = .fields vs) : ∀ e : Expr, PE (X.suite a ((a, oe) :: pn)) e (tH X.K i a d fs S (hX O E n C fs e))
  | .Constant c _ _ => by
    unfold hX hC
    split
    · exact h_c pe_non fun _ _ => RD.mnon
    · exact h_c pe_bl fun _ _ => RD.mbl
    · exact h_c pe_int fun _ _ => RD.mint
    · exact h_c pe_str fun _ _ => RD.mstr
    · exact pe_none
  | .Attribute o f p => by unfold hX; exact hF_ok h hz hf
  | .Call func args kws p => by unfold hX; exact hI_ok h hz hf
  | .Tuple es k p => by
    unfold hX
    split
    · rename_i hs
      have ih := hXs_ok h hz hf es hs
      split
      · rename_i xs hx
        split
        · rename_i hl
          refine PE.imp (pe_tup ih) fun σ H Q ⟨ι, hq, x', e, kk⟩ => ?_
          cases e
          refine ⟨ι, hq, xs, hx, fun vs H1 ι1 g1 hq1 r1 => ⟨by rw [← r1.length, sizeLine_eq]; omega, fun p hp => ?_⟩⟩
          have gn : Gr X.K H1 ι1 (upd H1 p (.tup vs)) ι1 := Gr.new hp
          refine kk (.ref p) _ ι1 (g1.trans gn) (hq1.new hp) ?_
          unfold RD
          exact ⟨p, vs, rfl, .inl (.inl upd_same), r1.mono gn⟩
        · exact pe_none
      · exact pe_none
    · exact pe_none
  | .IfExp c a' b' p => by
    unfold hX
    split
    · rename_i hc
      have ic := hX_ok h hz hf c
      have ia := hX_ok h hz hf a'
      have ib := hX_ok h hz hf b'
      have he : ∀ whole, isTrue c X.env whole = (do let v ← whole; standAt c.pos; holding [v] (truthy v)) := by
        cases c <;> first | (intro _; rfl) | (cases hc)
      have pt := pt_truth (X := X.suite a ((a, oe) :: pn)) ic he
      cases hr : hX O E n C fs c with
      | none => exact pe_none
      | some x =>
        rw [hr] at pt
        cases x with
        | bl k =>
          cases k with
          | true =>
            refine PE.imp (pe_ifExp pt ia ib) fun σ H Q ⟨ι, hq, x', e, kk⟩ => ?_
            refine ⟨ι, hq, _, rfl, fun v H1 ι1 g1 hq1 r1 => ⟨true, ?_, ι1, hq1, x', e, fun v2 H2 ι2 g2 => kk v2 H2 ι2 (g1.trans g2)⟩⟩
            rw [r1.bl]; rfl
          | false =>
            refine PE.imp (pe_ifExp pt ia ib) fun σ H Q ⟨ι, hq, x', e, kk⟩ => ?_
            refine ⟨ι, hq, _, rfl, fun v H1 ι1 g1 hq1 r1 => ⟨false, ?_, ι1, hq1, x', e, fun v2 H2 ι2 g2 => kk v2 H2 ι2 (g1.trans g2)⟩⟩
            rw [r1.bl]; rfl
        | _ => exact pe_none
    · exact pe_none
  | .Name .. | .BoolOp .. | .NamedExpr .. | .BinOp .. | .UnaryOp .. | .Lambda .. | .Dict .. | .Set .. | .ListComp .. | .SetComp .. | .DictComp .. | .GeneratorExp .. | .Await .. | .Yield .. | .YieldFrom .. | .Compare .. | .FormattedValue .. | .JoinedStr .. | .Subscript .. | .Starred .. | .List .. | .Slice .. => by
    unfold hX; exact pe_none
termination_by structural e => e
theorem hXs_ok (h : HCtx X W E O i n) (hz : Zc (.ref C) d oe) (hf : ∃ vs, oe.data = .fields vs) : ∀ es : List Expr, es.all noStar = true → PA (X.suite a ((a, oe) :: pn)) es (tHs X.K i a d fs S (hXs O E n C fs es))
  | [], _ => by
    unfold hXs
    exact PA.imp pa_nil fun σ H Q ⟨ι, hq, x', e, k⟩ => by cases e; exact k [] H ι Gr.refl hq RDs.nil
  | e :: es, hs => by
    rw [List.all_cons, Bool.and_eq_true] at hs
    have i1 := hX_ok h hz hf e
    have i2 := hXs_ok h hz hf es hs.2
    unfold hXs
    split
    · rename_i x xs e1 e2
      rw [e1] at i1
      rw [e2] at i2
      refine PA.imp (pa_cons i1 i2 (star_cons hs.1)) fun σ H Q ⟨ι, hq, x', e, k⟩ => ?_
      cases e
      exact ⟨ι, hq, x, rfl, fun v H1 ι1 g1 hq1 r1 => ⟨ι1, hq1, xs, rfl, fun vs H2 ι2 g2 hq2 r2 => k _ H2 ι2 (g1.trans g2) hq2 (RDs.cons (r1.mono g2) r2)⟩⟩
    · exact ⟨fun _ _ _ _ _ _ _ ⟨_, _, _, h, _⟩ => by cases h⟩
termination_by structural es => es
end
end
end DL
set_option Elab.async false
set_option linter.all false
set_option maxRecDepth 100000
set_option maxHeartbeats 1000000
/-! DRun: raise, try, two names at once; every statement by its tree. -/
namespace DL
open PySem L2

/-! ### raise -/
def sRaise (C : Addr) (fs : List Str) (a : PAs) : PSt := fun δ S => (a δ S).to δ fun xs S1 => if xs.length = fs.length then .exc δ C (fs.zip xs).reverse S1 else .bad
theorem RF.app {K : PySem.W.Frag} {H : Hp} {ι : List Addr} : ∀ {ds es : List (Str × D)} {vs us : List (Str × V)}, RF K H ι ds vs → RF K H ι es us → RF K H ι (ds ++ es) (vs ++ us)
  | [], _, _, _, h, q => by
    have h : _ = _ := h
    subst h
    exact q
  | (k, d) :: ds, es, _, us, h, q => by
    obtain ⟨v, r, rfl, q1, q2⟩ := h
    exact ⟨v, r ++ us, rfl, q1, RF.app q2 q⟩
theorem RF.zip {K : PySem.W.Frag} {H : Hp} {ι : List Addr} : ∀ {fs : List Str} {ds : List D} {vs : List V}, RDs K H ι ds vs → RF K H ι (fs.zip ds).reverse (fs.zip vs).reverse
  | [], ds, vs, h => rfl
  | f :: fs, [], vs, h => by
    unfold RDs at h
    subst h
    exact rfl
  | f :: fs, d :: ds, vs, h => by
    unfold RDs at h
    obtain ⟨v, r, rfl, q, s⟩ := h
    rw [List.zip_cons_cons, List.zip_cons_cons, List.reverse_cons, List.reverse_cons]
    exact RF.app (RF.zip s) ⟨v, [], rfl, q, rfl⟩
section
variable {X : Cx} {W : WX} {E : SE}
theorem pmk_x {C : Addr} {fs : List Str} {x : Str} {e : Expr} {es : List Expr} {ta : TA} {p pos : Pos} (T : ExcG X.prog X.w X.K X.mg X.base C fs) (room : Room 1 X.A) (hg : Gl X x) (hm : X.mg x = some (.ref C)) (hdb : (x == ("__debug__" : Str)) = false) (ha : PA X (e :: es) ta)
    (he : starEach (e :: es) X.env = (false, eval e X.env) :: starEach es X.env) (hpl : (backTo pos (starEach es X.env)).any (·.1) = false) :
    PMk X (.Call (.Name x p) (e :: es) [] pos) (fun σ H Q => ta σ H fun vs H1 => vs.length = fs.length ∧ ∀ d, H1 d = none → Q (.ref C) (some d) (upd H1 d (.xd (fs.zip vs).reverse))) := by
  intro pins s σ H Q I h
  refine wpAny_Call_Name_kw (ld_glob I hg hm ?_ hdb)
  refine PySem.W.callWith_K (h₀ := X.base) I.ok.mod.kin T.kC (thn (ha.run pos pins s σ H _ I h) fun us s1 hh => ?_) he hpl
  obtain ⟨vs, H1, I1, r1, hl, q1⟩ := hh
  refine ⟨I1.kIn, T.go X.A s1 us vs _ _ room I1.ok.mod I1.bk (by rw [← r1.length]; exact hl) r1 fun h' tk ex d t1 mm M rel => ?_⟩
  obtain ⟨hp, g, dr, tok, os⟩ := s1
  obtain ⟨G', g1, g2⟩ := restrict h' fun b => decide (b ≠ ex)
  have gk : ∀ b, b ≠ ex → G'.get? b = h'.get? b := fun b hb => g1 b (decide_eq_true hb)
  have ge : G'.get? ex = none := g2 ex (by simp)
  have old : ∀ b o, hp.get? b = some o → G'.get? b = some o := fun b o q => (gk b (Nat.ne_of_lt (Nat.lt_of_lt_of_le (Heap.lt_size q) M.new))).trans (M.keep b o q)
  have hd1 : hp.get? d = none := by
    cases hz : hp.get? d with
    | none => rfl
    | some o => exact absurd rfl (M.dnew d o hz)
  have hd2 : H1 d = none := I1.hok.gone hd1
  have ob : ObjOk X.prog X.w (upd H1 d (.xd (fs.zip vs).reverse)) G' d (.xd (fs.zip vs).reverse) := ⟨_, M.ns.at (fun o q => (gk d M.dne).trans q), rel⟩
  have J : Inv X pins σ (upd H1 d (.xd (fs.zip vs).reverse)) ⟨G', g, dr, tk, os⟩ := I1.laidN (t' := tk) old hd1 hd2 ob
  refine ⟨ex, _, _, ⟨G', g, dr, tk, os⟩, _, .ref C, some d, rfl, J, fun b o q => ?_, ge, M.obj, ⟨rfl, rfl⟩, rfl, rfl, ?_, rfl, I1.bare, raises_own T.exC T.tC, q1 d hd2⟩
  · by_cases hb : b = ex
    · have q' : G'.get? b = some o := q
      rw [hb, ge] at q'; cases q'
    · exact (gk b hb).symm.trans q
  · rw [upd_ne (Ne.symm M.dne)]
    exact I1.hok.fresh M.new
theorem ds_raise {C : Addr} {fs : List Str} {x : Str} {e : Expr} {es : List Expr} {f : PAs} {p pos pos2 : Pos} (hc : X.calm = true) (tk : Takes X W) (T : ExcG X.prog X.w X.K X.mg X.base C fs) (room : Room 1 X.A) (hg : Gl X x) (hm : X.mg x = some (.ref C)) (hdb : (x == ("__debug__" : Str)) = false) (ha : PA X (e :: es) (tOfA X.K W f))
    (he : starEach (e :: es) X.env = (false, eval e X.env) :: starEach es X.env) (hpl : (backTo pos (starEach es X.env)).any (·.1) = false) : PS X (.Raise (some (.Call (.Name x p) (e :: es) [] pos)) none pos2) (tOfS X.K W (sRaise C fs f)) := by
  refine PS.imp (ps_raise hc tk (pmk_x T room hg hm hdb ha he hpl)) fun Q σ H ⟨ι, S, δ, rs, ro, q⟩ => ⟨ι, S, δ, rs, ro, ?_⟩
  refine (PostS.to (rel := RDs X.K) q ro).mono fun vs H1 ⟨ι1, S1, xs, g1, rs1, rx, q1⟩ => ?_
  split at q1
  · rename_i hl
    refine ⟨by rw [← rx.length]; exact hl, fun d hd => ?_⟩
    have gn : Gr X.K H1 ι1 (upd H1 d (.xd (fs.zip vs).reverse)) ι1 := Gr.new hd
    exact q1 σ _ ι1 d _ gn (rs1.new hd) ((ro.mono g1).mono gn) upd_same (RF.zip (rx.mono gn))
  · exact q1.elim
end

/-! ### try -/
abbrev HSt := Addr → List (Str × D) → PSt
abbrev Cl := Addr × Nat × HSt
def catchL (O : Orc) : List Cl → Addr → List (Str × D) → PSt
  | [], C, fs => fun δ S => .exc δ C fs S
  | (c, i, h) :: r, C, fs => fun δ S => match O.sb C c with
    | some true => if i < δ.length then (match h C fs (δ.set i none) S with
      | .nx δ2 S2 => .nx (δ2.set i none) S2
      | .rt d S2 => .rt d S2
      | _ => .bad) else .bad
    | some false => catchL O r C fs δ S
    | none => .bad
def sTry (O : Orc) (body : PSt) (cl : List Cl) : PSt := fun δ S => match body δ S with
  | .exc δ' C fs S' => catchL O cl C fs δ' S'
  | r => r
def tsOf (K : PySem.W.Frag) (i : Nat) (h : HSt) : Addr → Value → Option Addr → TS := fun a cls d Z σ H => ∃ ι S δ C fs, cls = .ref C ∧ HQ K ι S i a d fs σ H ∧ ROs K H ι δ σ ∧ PostS K W0 ι H (h C fs δ S) Z
def clT (K : PySem.W.Frag) (cl : List Cl) : List ClT := cl.map fun c => (.ref c.1, c.2.1, tsOf K c.2.1 c.2.2)
theorem ROs.hide {K : PySem.W.Frag} {H : Hp} {ι : List Addr} {δ : Sl} {σ : St} {i : Nat} {v : Option V} (r : ROs K H ι δ σ) : ROs K H ι (δ.set i Option.none) (σ.set i v) := by
  refine ⟨by rw [List.length_set, List.length_set, r.1], fun j e he => ?_⟩
  by_cases hj : j = i
  · subst hj
    have hl : j < δ.length := by
      have := (List.getElem?_eq_some_iff.mp he).1
      rwa [List.length_set] at this
    rw [List.getElem?_set_self hl] at he
    cases he
  · rw [List.getElem?_set_ne (Ne.symm hj)] at he ⊢
    exact r.2 j e he
section
variable {X : Cx} {W : WX} {E : SE} {O : Orc}
theorem i_catch {K : PySem.W.Frag} (ok : OrcOk K O) {Z : Ends} {ι : List Addr} {H : Hp} {C : Addr} {fs : List (Str × D)} {δ : Sl} {S : SS} {σ : St} {dd : Addr} {ff : List (Str × V)} (rs : RelS K H ι S) (ro : ROs K H ι δ σ) (hd : H dd = some (.xd ff)) (rf : RF K H ι fs ff) :
    ∀ cl : List Cl, PostS K W ι H (catchL O cl C fs δ S) Z → wAll K W Z (clT K cl) (.ref C) (some dd) σ H
  | [], h => h σ H ι dd ff Gr.refl rs ro hd rf
  | (c, i, hh) :: cl, h => by
    unfold catchL at h
    split at h
    · rename_i hs
      obtain ⟨e1, _, _⟩ := ok.sb C c true hs
      split at h
      · rename_i hi
        refine ⟨true, e1, fun _ a ha => ⟨ι, S, δ.set i none, C, fs, rfl, ⟨rs, ?_, dd, ff, rfl, hd, rf⟩, ro.hide, ?_⟩, fun z => by cases z⟩
        · rw [List.getElem?_set_self (by rw [← ro.1]; exact hi)]
        · show PostS K W0 ι H (hh C fs (δ.set i none) S) _
          cases hr : hh C fs (δ.set i none) S with
          | nx δ2 S2 => rw [hr] at h; exact fun σ' H' ι' g s (r : ROs K H' ι' δ2 σ') => h _ H' ι' g s (ROs.none r)
          | rt d S2 => rw [hr] at h; exact h
          | _ => rw [hr] at h; exact h.elim
      · exact h.elim
    · rename_i hs
      obtain ⟨e1, _, _⟩ := ok.sb C c false hs
      exact ⟨false, e1, (fun z => by cases z), fun _ => i_catch ok rs ro hd rf cl h⟩
    · exact h.elim
theorem ds_try {bd : List Stmt} {hd : ExceptHandler} {hds : List ExceptHandler} {g : PSt} {cl : List Cl} {pos : Pos} (ok : OrcOk X.K O) (hs : X.stack = X.env :: X.outer) (hf : X.env.frame = some X.env.locals) (hN : X.N.Nodup) (tk : Takes X W)
    (hb : ∀ (W : WX) (pn : List (Addr × Obj)) (xe : Value → Shared → Prop), Takes (X.tr pn xe) W → PassesOwn (model X.prog X.w) X.A X.env xe → PSs (X.tr pn xe) bd (tOfS X.K W g)) (hh : ClsOk X (hd :: hds) (clT X.K cl)) :
    PS X (.Try bd (hd :: hds) [] [] pos) (tOfS X.K W (sTry O g cl)) := by
  refine PS.imp (ps_tryA hs hf hN tk hb hh) fun Z σ H ⟨ι, S, δ, rs, ro, q⟩ => ⟨ι, S, δ, rs, ro, ?_⟩
  unfold sTry at q
  cases hr : g δ S with
  | exc δ' C fs S' =>
    rw [hr] at q
    exact fun σ' H' ι' dd ff g' rs' ro' hdd rf => i_catch ok rs' ro' hdd rf cl (PostS.later g' q)
  | nx δ' S' => rw [hr] at q; exact q
  | rt d S' => rw [hr] at q; exact q
  | bk δ' S' => rw [hr] at q; exact q
  | ct δ' S' => rw [hr] at q; exact q
  | bad => rw [hr] at q; exact q.elim
end
def locOf (E : SE) (n : Str) : Option Nat := match E.sc.names.lookup n with
  | some .local => if (n == ("__debug__" : Str) || n == ("__classdict__" : Str)) = true then none else ixOf E.N n 0
  | _ => none
def noComp : Expr → Bool
  | .ListComp .. | .SetComp .. | .DictComp .. => false
  | _ => true
def hS1 (O : Orc) (E : SE) (n : Str) (i : Nat) : Stmt → Option HSt
  | .Return (some e) _ => some fun C fs δ S => match hX O E n C fs e with
    | some x => .rt x S
    | none => .bad
  | .Assign [.Name x _] e _ => if noComp e = true then (match locOf E x with
    | some j => some fun C fs δ S => match hX O E n C fs e with
      | some x => .nx (δ.set j (some x)) S
      | none => .bad
    | none => none) else none
  | .Pass _ => some fun _ _ δ S => .nx δ S
  | _ => none
def hS (O : Orc) (E : SE) (n : Str) (i : Nat) : List Stmt → Option HSt
  | [st] => hS1 O E n i st
  | _ => none
def dCl (O : Orc) (E : SE) : List ExceptHandler → Option (List Cl)
  | [] => some []
  | .ExceptHandler (some (.Name x _)) (some n) bd _ :: r => match clsOf E x, locOf E n with
    | some c, some i => (match hS O E n i bd, dCl O E r with
      | some h, some l => some ((c, i, h) :: l)
      | _, _ => none)
    | _, _ => none
  | _ => none
section
variable {X : Cx} {W : WX} {E : SE} {O : Orc}
theorem locOf_ok (C : Ctx X W E) {n : Str} {i : Nat} (h : locOf E n = some i) : X.N[i]? = some n ∧ X.env.scope.names.lookup n = some .local ∧ (n == ("__debug__" : Str)) = false ∧ (n == ("__classdict__" : Str)) = false := by
  unfold locOf at h
  split at h
  · rename_i hl
    split at h
    · cases h
    · rename_i hn
      simp only [Bool.or_eq_true, not_or, Bool.not_eq_true] at hn
      obtain ⟨k, e1, e2⟩ := ixOf_ok h
      have : i = k := by omega
      subst this
      exact ⟨by rw [C.n]; exact e2, by rw [C.sc]; exact hl, hn.1, hn.2⟩
  · cases h
theorem swaps_no {e : Expr} (h : noComp e = true) (t : Option Expr) (l : Nat) (env : Env) : swapsWith e t l env = pure false := by
  cases e <;> first | rfl | (cases h)
theorem hS_ok (h : HCtx X W E O i n) {st : Stmt} {hh : HSt} (hs : hS1 O E n i st = some hh) (a : Addr) (oe : Obj) (cls : Value) (d : Option Addr) (pn : List (Addr × Obj)) (hz : Zc cls d oe) (hf : ∃ vs, oe.data = .fields vs) : PSs (X.suite a ((a, oe) :: pn)) [st] (tsOf X.K i hh a cls d) := by
  unfold hS1 at hs
  split at hs
  · rename_i e p
    cases hs
    refine ⟨fun pins s σ H Z I q => ?_⟩
    obtain ⟨ι, S, δ, C, fs, rfl, hq, ro, q⟩ := q
    have pe := hX_ok (a := a) (S := S) (fs := fs) (pn := pn) h hz hf e
    refine (PSs.imp (pss_cons (ps_ret (pos := p) pe) pss_nil) fun Q σ H q => ?_ : PSs (X.suite a ((a, oe) :: pn)) [.Return (some e) p] (fun Q σ H => ∃ ι, HQ X.K ι S i a d fs σ H ∧ ∃ δ, ROs X.K H ι δ σ ∧ PostS X.K W0 ι H (match hX O E n C fs e with | some x => RS.rt x S | none => RS.bad) Q)).run pins s σ H Z I ⟨ι, hq, δ, ro, q⟩
    obtain ⟨ι, hq, δ, ro, q⟩ := q
    cases hx : hX O E n C fs e with
    | none => rw [hx] at q; exact q.elim
    | some x =>
      rw [hx] at q
      exact ⟨ι, hq, x, rfl, fun v H' ι' g hq' r => q v H' ι' g hq'.rs r⟩
  · rename_i x p1 e p
    split at hs
    · rename_i hc
      split at hs
      · rename_i j hj
        cases hs
        obtain ⟨l1, l2, l3, l4⟩ := locOf_ok h.c hj
        refine ⟨fun pins s σ H Z I q => ?_⟩
        obtain ⟨ι, S, δ, C, fs, rfl, hq, ro, q⟩ := q
        have pe := hX_ok (a := a) (S := S) (fs := fs) (pn := pn) h hz hf e
        refine (PSs.imp (pss_cons (ps_set (X := X.suite a ((a, oe) :: pn)) (pos := p) (pos' := p1) (by show X.N.Nodup; rw [h.c.n]; exact h.c.nd) l1 (.inl l2) pe (swaps_no hc _ _ _) (.inr l2)) pss_nil) fun Q σ H q => ?_ : PSs (X.suite a ((a, oe) :: pn)) [.Assign [.Name x p1] e p] (fun Q σ H => ∃ ι, HQ X.K ι S i a d fs σ H ∧ ∃ δ, ROs X.K H ι δ σ ∧ PostS X.K W0 ι H (match hX O E n C fs e with | some x => RS.nx (δ.set j (some x)) S | none => RS.bad) Q)).run pins s σ H Z I ⟨ι, hq, δ, ro, q⟩
        obtain ⟨ι, hq, δ, ro, q⟩ := q
        cases hx : hX O E n C fs e with
        | none => rw [hx] at q; exact q.elim
        | some x =>
          rw [hx] at q
          exact ⟨ι, hq, x, rfl, fun v H' ι' g hq' r => q _ H' ι' g hq'.rs ((ro.mono g).set r)⟩
      · cases hs
    · cases hs
  · rename_i p
    cases hs
    refine PSs.imp (pss_cons (ps_pass (pos := p)) pss_nil) fun Q σ H q => ?_
    obtain ⟨ι, S, δ, C, fs, rfl, hq, ro, q⟩ := q
    exact q σ H ι Gr.refl hq.rs ro
  · cases hs
theorem dCl_ok (C : Ctx X W E) (ok : OrcOk X.K O) : ∀ {hds : List ExceptHandler} {cl : List Cl}, dCl O E hds = some cl → ClsOk X hds (clT X.K cl)
  | [], cl, h => by cases h; exact .nil
  | .ExceptHandler (some (.Name x p)) (some n) [st] p2 :: r, cl, h => by
    simp only [dCl] at h
    split at h
    · rename_i c i h1 h2
      split at h
      · rename_i hh l h3 h4
        cases h
        obtain ⟨c1, c2, c3⟩ := clsOf_ok C h1
        obtain ⟨l1, l2, l3, l4⟩ := locOf_ok C h2
        exact .cons (c := .ref c) ⟨c1, c2, .inl c3⟩ l1 l2 (fun a oe cls d pn hz hf => hS_ok ⟨C, ok, l1, l2, l3, l4⟩ h3 a oe cls d pn hz hf) (dCl_ok C ok h4)
      · cases h
    · cases h
  | .ExceptHandler (some (.Name x p)) (some n) [] p2 :: r, cl, h => by
    simp only [dCl] at h
    split at h
    · split at h
      · rename_i h3 h4
        cases h3
      · cases h
    · cases h
  | .ExceptHandler (some (.Name x p)) (some n) (st :: st2 :: sts) p2 :: r, cl, h => by
    simp only [dCl] at h
    split at h
    · split at h
      · rename_i h3 h4
        cases h3
      · cases h
    · cases h
end
end DL
set_option Elab.async false
set_option linter.all false
set_option maxRecDepth 100000
set_option maxHeartbeats 1000000
/-! DPar: two names at once. -/
namespace DL
open PySem L2
def isStar : Expr → Bool
  | .Starred .. => true
  | _ => false
theorem star_no {e : Expr} (h : noStar e = true) : isStar e = false := by cases e <;> first | rfl | (cases h)
theorem sw_pair {x y : Str} {a b : Expr} {px py pt : Pos} {kt : Nat} {k2 : Nat} {pt2 : Pos} {env : Env} (hk : env.scope.kind = .function) (hx : env.scope.names.lookup x = some .local) (hy : env.scope.names.lookup y = some .local) (hl : (py.line == px.line) = true) (hxy : (x == y) = false)
    (ha : noStar a = true) (hb : noStar b = true) (hf : [a, b].all (foldedForSure 8) = false) (hc : [a, b].all (constantsAlone 8) = false) :
    swappedStores [.Tuple [.Name x px, .Name y py] kt pt] (.Tuple [a, b] k2 pt2) env = pure (some [x, y]) := by
  have bk : env.blockKind = .function := by unfold Env.blockKind; rw [hk]; rfl
  have ex : (env.kindOf x == some .local) = true := by unfold Env.kindOf; rw [hx]; rfl
  have ey : (env.kindOf y == some .local) = true := by unfold Env.kindOf; rw [hy]; rfl
  have hll : (py.line == (Expr.Name x px).pos.line) = true := hl
  have nd : ([x, y] : List Str).eraseDups = [x, y] := by
    rw [List.eraseDups_cons]
    have : (y == x) = false := by
      rw [beq_eq_false_iff_ne] at hxy ⊢
      exact fun z => hxy z.symm
    simp [this, List.eraseDups_cons]
  have fm : ∀ f : Expr → Option Str, f (.Name x px) = some x → f (.Name y py) = some y → List.filterMap f [.Name x px, .Name y py] = [x, y] := fun f h1 h2 => by
    rw [List.filterMap_cons, h1, List.filterMap_cons, h2]
    rfl
  have an : ∀ f : Expr → Bool, f a = false → f b = false → [a, b].any f = false := fun f h1 h2 => by simp [h1, h2]
  have ia := star_no ha
  have ib := star_no hb
  unfold swappedStores
  simp only []
  rw [if_neg (by rw [bk]; simp)]
  rw [if_neg (fun z => by
    rw [an] at z
    · cases z
    · exact ia
    · exact ib)]
  have e1 : (List.filterMap (fun t => match t with
      | .Name id pos => if (env.kindOf id == some .local && pos.line == (Option.map (fun x => x.pos.line) [Expr.Name x px, Expr.Name y py].head?).getD 0) = true then some id else none
      | _ => none) [Expr.Name x px, Expr.Name y py]) = [x, y] := by
    refine fm _ ?_ ?_
    · show (if (env.kindOf x == some NameKind.local && px.line == px.line) = true then some x else none) = some x
      rw [ex]
      simp
    · show (if (env.kindOf y == some NameKind.local && py.line == px.line) = true then some y else none) = some y
      rw [ey, hl]
      rfl
  have fin : ∀ names : List Str, names = [x, y] → (if (names.length != [Expr.Name x px, Expr.Name y py].length || names.eraseDups.length != names.length) = true then pure none else if ([a, b].all (foldedForSure 8)) = true then pure none else if ([a, b].all (constantsAlone 8)) = true then (do unsupported "assign.tuple-of-constant-expressions:order-of-the-stores"; pure (some names)) else (pure (some names) : Sem (Option (List Str)))) = pure (some [x, y]) := by
    rintro _ rfl
    rw [nd, hf, hc]
    rfl
  exact fin _ e1
theorem sw_fold {ts : List Expr} {vs : List Expr} {pt : Pos} {kt : Nat} {k2 : Nat} {pt2 : Pos} {env : Env} (hf : vs.all (foldedForSure 8) = true) :
    swappedStores [.Tuple ts kt pt] (.Tuple vs k2 pt2) env = pure none := by
  unfold swappedStores
  simp only [hf]
  split
  · rfl
  split
  · rfl
  split
  · rfl
  rfl
theorem sw_len {ts : List Expr} {vs : List Expr} {pt : Pos} {kt : Nat} {k2 : Nat} {pt2 : Pos} {env : Env} (hf : (ts.length == 2 || ts.length == 3) = false) :
    swappedStores [.Tuple ts kt pt] (.Tuple vs k2 pt2) env = pure none := by
  unfold swappedStores
  simp only [hf]
  rfl
def isTup : Expr → Bool
  | .Tuple .. => true
  | _ => false
theorem sw_non {t v : Expr} {env : Env} (h : isTup v = false) : swappedStores [t] v env = pure none := by
  unfold swappedStores
  cases v <;> first | (cases t <;> rfl) | (exact absurd h (by simp [isTup]))
def sPar (i j : Nat) (fa fb : PEx) : PSt := fun δ S => (fa δ S).to δ fun x S1 => (fb δ S1).to δ fun y S2 => .nx ((δ.set i (some x)).set j (some y)) S2
theorem ds_par {X : Cx} {W : WX} {i j : Nat} {x y : Str} {a b : Expr} {fa fb : PEx} {px py pt pos : Pos} {kt k2 pt2} (hc : X.calm = true) (hN : X.N.Nodup) (hi : X.N[i]? = some x) (hj : X.N[j]? = some y) (hij : i ≠ j)
    (hx : X.env.scope.names.lookup x = some .local) (hy : X.env.scope.names.lookup y = some .local) (ha : PE X a (tOf X.K W fa)) (hb : PE X b (tOf X.K W fb)) (sa : noStar a = true) (sb : noStar b = true)
    (hw : swappedStores [.Tuple [.Name x px, .Name y py] kt pt] (.Tuple [a, b] k2 pt2) X.env = pure (some [x, y])) :
    PS X (.Assign [.Tuple [.Name x px, .Name y py] kt pt] (.Tuple [a, b] k2 pt2) pos) (tOfS X.K W (sPar i j fa fb)) := by
  refine PS.imp (ps_par hc hN hi hj hij hx hy (pa_cons ha (pa_cons hb pa_nil (star_cons sb)) (star_cons sa)) hw rfl) fun Q σ H ⟨ι, S, δ, rs, ro, q⟩ => ⟨ι, S, δ, rs, ro, ?_⟩
  refine (PostS.to (rel := RD X.K) q ro).mono fun v H1 ⟨ι1, S1, x, g1, rs1, rx, q1⟩ => ⟨ι1, S1, δ, rs1, ro.mono g1, ?_⟩
  refine (PostS.to (rel := RD X.K) q1 (ro.mono g1)).mono fun w H2 ⟨ι2, S2, y, g2, rs2, ry, q2⟩ => ⟨v, w, rfl, ?_⟩
  exact q2 _ H2 ι2 Gr.refl rs2 ((((ro.mono g1).mono g2).set (rx.mono g2)).set ry)
end DL
set_option Elab.async false
set_option linter.all false
set_option maxRecDepth 100000
set_option maxHeartbeats 1000000
/-! DStm: every statement by its tree. -/
namespace DL
open PySem L2

structure SCtx (X : Cx) (W : WX) (E : SE) (O : Orc) : Prop where
  c : Ctx X W E
  o : OrcOk X.K O
  po : PassesOwn (model X.prog X.w) X.A X.env X.xe
  st : X.stack = X.env :: X.outer
  fr : X.env.frame = some X.env.locals
  kd : X.env.scope.kind = .function
theorem SCtx.tr {X : Cx} {W W' : WX} {E : SE} {O : Orc} {pn : List (Addr × Obj)} {xe : Value → Shared → Prop} (h : SCtx X W E O) (tk : Takes (X.tr pn xe) W') (po : PassesOwn (model X.prog X.w) X.A X.env xe) : SCtx (X.tr pn xe) W' E O where
  c := ⟨h.c.n, h.c.sc, h.c.nd, h.c.calm, h.c.gd, h.c.un, tk, h.c.fn, fun x v q => by
    have := h.c.g x v q
    cases v <;> exact this⟩
  o := h.o
  po := po
  st := h.st
  fr := h.fr
  kd := h.kd
def isLc : Expr → Bool
  | .ListComp .. => true
  | _ => false
def isPair : List Expr → List Expr → List EV → Option (Str × Str × PEx × PEx)
  | [.Name x px, .Name y py], [a, b], [fa, fb] => if (py.line == px.line) = true ∧ (x == y) = false ∧ noStar a = true ∧ noStar b = true ∧ [a, b].all (foldedForSure 8) = false ∧ [a, b].all (constantsAlone 8) = false then some (x, y, fa.1, fb.1) else none
  | _, _, _ => none
def asgF (E : SE) (t v : Expr) (fv : PEx) (fs : List EV) (fo fi : PEx) : PSt := match t with
  | .Name x _ => if isLc v = true then (match locOf E x with
      | some i => sAsg fv (.one i)
      | none => sBad)
    else if noComp v = true then (match slotOf E x with
      | some i => sAsg fv (.one i)
      | none => sBad) else sBad
  | .Tuple ts _ _ => (match v with
    | .Tuple vs _ _ => (match isPair ts vs fs with
      | some (x, y, fa, fb) => (match locOf E x, locOf E y with
        | some i, some j => if i ≠ j then sPar i j fa fb else sBad
        | _, _ => sBad)
      | none => if (ts.length == 2 || ts.length == 3) = false ∨ vs.all (foldedForSure 8) = true then (match slotsOf E ts with
        | some is => sAsg fv (.many is)
        | none => sBad) else sBad)
    | v => (match slotsOf E ts with
      | some is => sAsg fv (.many is)
      | none => sBad))
  | .Subscript _ i _ => if plainIx i = true then sSet fv fo fi else sBad
  | _ => sBad
def raiseF (E : SE) (func : Expr) (args : List Expr) (kws : List Keyword) (fs : List EV) : PSt := match func, kws with
  | .Name x _, [] => (match glb E x with
    | some (.ex C ns) => (match args with
      | [] => sBad
      | _ => if args.all noStar = true then sRaise C ns (argsOf fs) else sBad)
    | _ => sBad)
  | _, _ => sBad
def subOf (M : Str → Option Mi) (E : SE) : Expr → Expr × Expr := fun e => match e with
  | .Subscript o i _ => (o, i)
  | e => (e, e)
mutual
noncomputable def dS (M : Str → Option Mi) (O : Orc) : Stmt → SE → PSt
  | .Expr a _, E => if noComp a = true then sDrop (dX M a E).1 else sBad
  | .Return v _, E => (match v with
    | some a => sRet (dX M a E).1
    | none => sRetN)
  | .Pass _, _ => sNil
  | .Break _, _ => fun δ S => .bk δ S
  | .Continue _, _ => fun δ S => .ct δ S
  | .If c a b _, E => sIf (dX M c E).2 (dSs M O a E) (dSs M O b E)
  | .Assign ts v _, E => (match ts with
    | [t] => asgF E t v (dX M v E).1 (match v with
      | .Tuple vs _ _ => dL M vs E
      | _ => []) (match t with
      | .Subscript o _ _ => (dX M o E).1
      | _ => eBad) (match t with
      | .Subscript _ i _ => (dX M i E).1
      | _ => eBad)
    | _ => sBad)
  | .AugAssign t op a _, E => (match t with
    | .Name x _ => (match slotOf E x with
      | some n => sAug op n (dX M a E).1
      | none => sBad)
    | _ => sBad)
  | .For tg i sts els _, E => (match els with
    | [] => (match dCT E tg with
      | some ct => if noSet i = true then sFor (dI M tg i E) ct (dSs M O sts E) else sBad
      | none => sBad)
    | _ => sBad)
  | .While t sts els _, E => (match els with
    | [] => sWhile (dX M t E).2 (dSs M O sts E)
    | _ => sBad)
  | .Try bd hds els fin _, E => (match hds, els, fin with
    | hd :: hds, [], [] => (match dCl O E (hd :: hds) with
      | some cl => sTry O (dSs M O bd E) cl
      | none => sBad)
    | _, _, _ => sBad)
  | .Raise e c _, E => (match e, c with
    | some (.Call func args kws _), none => raiseF E func args kws (dL M args E)
    | _, _ => sBad)
  | _, _ => sBad
noncomputable def dSs (M : Str → Option Mi) (O : Orc) : List Stmt → SE → PSt
  | [], _ => sNil
  | st :: sts, E => sSeq (dS M O st E) (dSs M O sts E)
end
section
variable {X : Cx} {W : WX} {E : SE} {O : Orc} {M : Str → Option Mi}
theorem ps_vac {st : Stmt} {g : PSt} (h : ∀ δ S, g δ S = .bad) : PS X st (tOfS X.K W g) := ⟨fun _ _ _ _ _ _ ⟨_, _, _, _, _, q⟩ => by rw [h] at q; exact q.elim⟩
theorem asg_lc (hM : MOk M) (S : SCtx X W E O) {y : Str} {py : Pos} {elt : Expr} {gens : List Comprehension} {scope : Scope} {pos spos : Pos} {i : Nat} (hi : X.N[i]? = some y) (hyl : X.env.scope.names.lookup y = some .local) :
    PS X (.Assign [.Name y py] (.ListComp elt gens scope pos) spos) (tOfS X.K W (sAsg (dX M (.ListComp elt gens scope pos) E).1 (.one i))) := by
  have hN : X.N.Nodup := by rw [S.c.n]; exact S.c.nd
  have bk : X.env.blockKind = .function := by unfold Env.blockKind; rw [S.kd]; rfl
  have ky : X.env.kindOf y = some .local := hyl
  have hsw : swapsWith (.ListComp elt gens scope pos) (some (.Name y py)) spos.line X.env = pure (py.line == pos.line && !(scope.names.any fun (n, k) => n == y && (k == .local || k == .cell))) := by
    unfold swapsWith
    simp only [bk, ky, Expr.pos]
    rfl
  cases hb : (py.line == pos.line && !(scope.names.any fun (n, k) => n == y && (k == .local || k == .cell))) with
  | false =>
    rw [hb] at hsw
    refine PS.imp (ps_set hN hi (.inl hyl) (dX_ok hM (.ListComp elt gens scope pos) E X W S.c).1 hsw (.inr hyl)) fun Q σ H h => i_asg h
  | true =>
    rw [hb] at hsw
    have h1 := dGen_ok hM gens E (blkSE E scope)
    have h2 : ∀ X' W', Ctx X' W' (blkSE E scope) → EOk X' W' elt (dX M elt (blkSE E scope)) := fun X' W' C' => dX_ok hM elt (blkSE E scope) X' W' C'
    have C := S.c
    unfold dX
    cases hg : dGen M gens E (blkSE E scope) with
    | none => exact ps_vac fun _ _ => rfl
    | some f =>
      obtain ⟨tg, iter, it, ct, t⟩ := f
      obtain ⟨ifs, rfl, q1, q2, q3⟩ := h1 tg iter it ct t hg
      dsimp only
      split
      · rename_i own ho
        split
        · rename_i hc
          obtain ⟨c1, c2, c3⟩ := hc
          refine PS.imp (ps_setLc (own := own) (g := gC X.K ct) (tt := tOfT X.K W0 t) (te := tOf X.K W0 (dX M elt (blkSE E scope)).1) C.calm hN hi hyl hsw (q2 X W C)
            (blkOk_by (by rw [C.n, C.sc]; exact c1)) (fun s H Cd cl fp => ?_) (fun s H Cd cl fp => ?_) (fun s H Cd cl fp => ?_) (fun x => fold_set c3 x)) fun _ _ _ h => i_lc c2 (i_asg h)
          · exact dCT_ok (ctx_blk C s H scope cl Cd fp) q1
          · exact q3 _ _ (ctx_blk C s H scope cl Cd fp)
          · exact (h2 _ _ (ctx_blk C s H scope cl Cd fp)).1
        · exact ps_vac fun _ _ => rfl
      · exact ps_vac fun _ _ => rfl
theorem sole_no {t v : Expr} {l : Nat} {env : Env} (h : noComp v = true) : swapsWithSole [t] v l env = pure false := by
  cases v <;> first | rfl | (cases h) | (cases t <;> rfl)
theorem swap_tup {v : Expr} {ts : List Expr} {k : Nat} {p : Pos} {l : Nat} {env : Env} : swapsWithSole [.Tuple ts k p] v l env = pure false := by
  cases v <;> rfl
theorem swap_sub {v o i : Expr} {p : Pos} {l : Nat} {env : Env} : swapsWithSole [.Subscript o i p] v l env = pure false := by
  cases v <;> rfl
theorem many_ok (C : Ctx X W E) {ts : List Expr} {is : List Nat} {k : Nat} {p pos : Pos} {v : Expr} {fv : PEx} (h : slotsOf E ts = some is) (hv : PE X v (tOf X.K W fv)) (hw : swappedStores [.Tuple ts k p] v X.env = pure none) : PS X (.Assign [.Tuple ts k p] v pos) (tOfS X.K W (sAsg fv (.many is))) :=
  ds_asg hv (dCT_ok C (tg := .Tuple ts k p) (by simp [dCT, h])) swap_tup hw rfl
theorem asgF_ok (hM : MOk M) (S : SCtx X W E O) {t v : Expr} {pos : Pos} {fs : List EV} {fo fi : PEx} (hfs : ∀ vs k p, v = .Tuple vs k p → AllE X W vs fs) (hs : ∀ o i p, t = .Subscript o i p → PE X o (tOf X.K W fo) ∧ PE X i (tOf X.K W fi)) :
    PS X (.Assign [t] v pos) (tOfS X.K W (asgF E t v (dX M v E).1 fs fo fi)) := by
  have C := S.c
  have hv := (dX_ok hM v E X W C).1
  have hN : X.N.Nodup := by rw [C.n]; exact C.nd
  unfold asgF
  split
  · rename_i x p
    split
    · rename_i hl
      split
      · rename_i i hi
        obtain ⟨l1, l2, _⟩ := locOf_ok C hi
        cases v with
        | ListComp elt gens scope vp => exact asg_lc hM S l1 l2
        | _ => cases hl
      · exact ps_bad
    · split
      · rename_i hn
        split
        · rename_i i hi
          refine ds_asg hv (slotOf_ok C hi) (sole_no hn) ?_ rfl
          unfold swappedStores
          cases v <;> rfl
        · exact ps_bad
      · exact ps_bad
  · rename_i ts k p
    split
    · rename_i vs k2 p2
      split
      · rename_i x y fa fb hp
        unfold isPair at hp
        split at hp
        · rename_i x' px y' py a b fa' fb' hfs'
          split at hp
          · rename_i hc
            cases hp
            obtain ⟨c1, c2, c3, c4, c5, c6⟩ := hc
            split
            · rename_i i j hi hj
              split
              · rename_i hij
                obtain ⟨l1, l2, _⟩ := locOf_ok C hi
                obtain ⟨m1, m2, _⟩ := locOf_ok C hj
                have hh := hfs _ _ _ rfl
                exact ds_par C.calm hN l1 m1 hij l2 m2 hh.1 hh.2.2.1 c3 c4 (sw_pair S.kd l2 m2 c1 c2 c3 c4 c5 c6)
              · exact ps_bad
            · exact ps_bad
          · cases hp
        · cases hp
      · split
        · rename_i hc
          split
          · rename_i is hi
            refine many_ok C hi hv ?_
            rcases hc with hc | hc
            · exact sw_len hc
            · exact sw_fold hc
          · exact ps_bad
        · exact ps_bad
    · rename_i hnt
      split
      · rename_i is hi
        refine many_ok C hi hv (sw_non ?_)
        cases v <;> first | rfl | (exact absurd rfl (hnt _ _ _))
      · exact ps_bad
  · rename_i o i p
    split
    · rename_i hp
      obtain ⟨h1, h2⟩ := hs _ _ _ rfl
      refine ds_set hv h1 h2 swap_sub ?_ ?_
      · unfold swappedStores
        cases v <;> rfl
      · intro v
        cases i <;> first | rfl | (cases hp)
    · exact ps_bad
  · exact ps_bad
theorem raiseF_ok (S : SCtx X W E O) {func : Expr} {args : List Expr} {kws : List Keyword} {fs : List EV} {pos p : Pos} (ha : AllE X W args fs) : PS X (.Raise (some (.Call func args kws pos)) none p) (tOfS X.K W (raiseF E func args kws fs)) := by
  have C := S.c
  unfold raiseF
  split
  · rename_i x px
    split
    · rename_i c ns hb
      obtain ⟨hg, h1, h2, h3, h4⟩ := glb_ok C hb
      split
      · exact ps_bad
      · split
        · rename_i hne hs
          cases args with
          | nil => exact absurd rfl hne
          | cons e es =>
            have hs2 := hs
            rw [List.all_cons, Bool.and_eq_true] at hs2
            exact ds_raise C.calm C.tk h3 h4 hg h2 h1 (argsOf_ok ha hs) (star_cons hs2.1) (star_any hs2.2)
        · exact ps_bad
    · exact ps_bad
  · exact ps_bad
end
mutual
theorem dS_ok {M : Str → Option Mi} {O : Orc} (hM : MOk M) : ∀ (st : Stmt) (E : SE) (X : Cx) (W : WX), SCtx X W E O → PS X st (tOfS X.K W (dS M O st E))
  | .Expr a p, E, X, W, S => by
    unfold dS
    split
    · rename_i hn
      exact ds_drop (dX_ok hM a E X W S.c).1 (swaps_no hn _ _ _)
    · exact ps_bad
  | .Return v p, E, X, W, S => by
    unfold dS
    cases v with
    | some a => exact ds_ret (dX_ok hM a E X W S.c).1
    | none => exact ds_retN
  | .Pass p, E, X, W, S => ds_pass
  | .Break p, E, X, W, S => ds_brk
  | .Continue p, E, X, W, S => ds_cont
  | .If c a b p, E, X, W, S => ds_if (dX_ok hM c E X W S.c).2 (dSs_ok hM a E X W S) (dSs_ok hM b E X W S)
  | .Assign ts v p, E, X, W, S => by
    unfold dS
    split
    · rename_i t
      refine asgF_ok hM S ?_ ?_
      · rintro vs k p rfl
        exact dL_ok hM vs E X W S.c
      · rintro o i p rfl
        exact ⟨(dX_ok hM o E X W S.c).1, (dX_ok hM i E X W S.c).1⟩
    · exact ps_bad
  | .AugAssign t op a p, E, X, W, S => by
    unfold dS
    split
    · rename_i x px
      split
      · rename_i n hn
        have C := S.c
        have hN : X.N.Nodup := by rw [C.n]; exact C.nd
        have ha := (dX_ok hM a E X W C).1
        unfold slotOf at hn
        split at hn
        · rename_i hl
          obtain ⟨k, e1, e2⟩ := ixOf_ok hn
          have : n = k := by omega
          subst this
          have hl' : X.env.scope.names.lookup x = some .local := by rw [C.sc]; exact hl
          exact ds_aug hN (by rw [C.n]; exact e2) (.inl hl') (.inr hl') ha
        · rename_i hl
          split at hn
          · rename_i hf
            obtain ⟨k, e1, e2⟩ := ixOf_ok hn
            have : n = k := by omega
            subst this
            have hl' : X.env.scope.names.lookup x = some .cell := by rw [C.sc]; exact hl
            exact ds_aug hN (by rw [C.n]; exact e2) (.inr hl') (.inl (C.fn x hf)) ha
          · cases hn
        · cases hn
      · exact ps_bad
    · exact ps_bad
  | .For tg i sts els p, E, X, W, S => by
    have ih := dSs_ok hM sts E X W S
    unfold dS
    split
    · split
      · rename_i ct hct
        split
        · rename_i hn
          exact ds_for S.po S.c.calm (iterF_ok S.c (dX_ok hM i E X W S.c).1 (dArgs_ok hM i E X W S.c)) (dCT_ok S.c hct) ih fun x => fold_set hn x
        · exact ps_bad
      · exact ps_bad
    · exact ps_bad
  | .While t sts els p, E, X, W, S => by
    have ih := dSs_ok hM sts E X W S
    unfold dS
    split
    · exact ds_while S.po (dX_ok hM t E X W S.c).2 ih
    · exact ps_bad
  | .Try bd hds els fin p, E, X, W, S => by
    have ih : ∀ X W, SCtx X W E O → PSs X bd (tOfS X.K W (dSs M O bd E)) := fun X W S => dSs_ok hM bd E X W S
    unfold dS
    split
    · rename_i hd hds'
      split
      · rename_i cl hcl
        refine ds_try S.o S.st S.fr (by rw [S.c.n]; exact S.c.nd) S.c.tk (fun W' pn xe tk po => ih _ _ (S.tr tk po)) (dCl_ok S.c S.o hcl)
      · exact ps_bad
    · exact ps_bad
  | .Raise e c p, E, X, W, S => by
    unfold dS
    split
    · rename_i func args kws pos
      exact raiseF_ok S (dL_ok hM args E X W S.c)
    · exact ps_bad
  | .FunctionDef .., _, _, _, _ => ps_bad
  | .AsyncFunctionDef .., _, _, _, _ => ps_bad
  | .ClassDef .., _, _, _, _ => ps_bad
  | .Delete .., _, _, _, _ => ps_bad
  | .TypeAlias .., _, _, _, _ => ps_bad
  | .AnnAssign .., _, _, _, _ => ps_bad
  | .AsyncFor .., _, _, _, _ => ps_bad
  | .With .., _, _, _, _ => ps_bad
  | .AsyncWith .., _, _, _, _ => ps_bad
  | .Match .., _, _, _, _ => ps_bad
  | .TryStar .., _, _, _, _ => ps_bad
  | .Assert .., _, _, _, _ => ps_bad
  | .Import .., _, _, _, _ => ps_bad
  | .ImportFrom .., _, _, _, _ => ps_bad
  | .Global .., _, _, _, _ => ps_bad
  | .Nonlocal .., _, _, _, _ => ps_bad
termination_by structural st => st
theorem dSs_ok {M : Str → Option Mi} {O : Orc} (hM : MOk M) : ∀ (sts : List Stmt) (E : SE) (X : Cx) (W : WX), SCtx X W E O → PSs X sts (tOfS X.K W (dSs M O sts E))
  | [], E, X, W, S => ds_nil
  | st :: sts, E, X, W, S => ds_cons (dS_ok hM st E X W S) (dSs_ok hM sts E X W S)
termination_by structural sts => sts
end
end DL
set_option Elab.async false
set_option linter.all false
set_option maxRecDepth 100000
set_option maxHeartbeats 1000000
/-! DFun: a def of the text does what its body's tree says; the law's def called. -/
namespace DL
open PySem PySem.Spec PyProof.Rows L2

def startD (n : Nat) (ds : List D) : Sl := ds.map some ++ List.replicate (n - ds.length) none
def endF : RS → R D
  | .rt d S => .ok d S
  | .nx _ S => .ok .non S
  | .exc _ C fs S => .exc C fs S
  | _ => .bad
def fnB (b : PSt) (n : Nat) : Fn := fun ds S => endF (b (startD n ds) S)
noncomputable def fnD (M : Str → Option Mi) (O : Orc) (st : Stmt) (E : SE) : Fn := fnB (dSs M O (defBody st) E) E.N.length
theorem ros_start {K : PySem.W.Frag} {H : Hp} {ι : List Addr} {N : List Str} {ds : List D} {vs : List V} (r : RDs K H ι ds vs) : ROs K H ι (startD N.length ds) (L2.start N vs) := by
  have hl := r.length
  unfold startD L2.start
  refine ⟨by simp [hl], fun i d h => ?_⟩
  by_cases hi : i < ds.length
  · rw [List.getElem?_append_left (by simpa using hi), List.getElem?_map] at h
    cases hd : ds[i]? with
    | none => rw [hd] at h; cases h
    | some x =>
      rw [hd] at h
      cases h
      obtain ⟨v, hv, rv⟩ := r.get hd
      refine ⟨v, ?_, rv⟩
      rw [List.getElem?_append_left (by simpa [hl] using hi), List.getElem?_map, hv]
      rfl
  · rw [List.getElem?_append_right (by simpa using hi), List.getElem?_replicate] at h
    split at h <;> cases h
section
variable {P : Program} {w : World} {K : PySem.W.Frag} {mg : Str → Option Value} {base : Heap}
/-- what every context of the law's defs has -/
structure Same (X : Cx) (P : Program) (w : World) (K : PySem.W.Frag) (mg : Str → Option Value) (base : Heap) (k : Nat) : Prop where
  p : X.prog = P
  w : X.w = w
  K : X.K = K
  mg : X.mg = mg
  b : X.base = base
  r : Room k X.A
/-- a def as it stands, whatever its defaults -/
structure FunE (K : PySem.W.Frag) (x qual : Str) (st : Stmt) (f : Addr) (fd : FuncData) : Prop where
  ex : ∃ (oc : Value) (od : Option Addr) (dV kV doc pm : Value) (an : Option Addr) (cdv ct : Value) (osl : Array (Option Value)),
    fd = PySem.W.fnOf x qual (defArgs st) (defBody st) (defScope st) dV kV doc pm an cdv ct ∧ K.lookup f = some ⟨oc, od, .func fd, osl⟩ ∧ PySem.W.codeIn K cdv qual = true
theorem FunE.of {x qual : Str} {st : Stmt} {f : Addr} {fd : FuncData} (h : L2.Fun K x qual st f fd) : FunE K x qual st f fd := by
  obtain ⟨oc, od, kV, doc, pm, an, cdv, ct, osl, e, lk, hcd⟩ := h.ex
  exact ⟨oc, od, _, kV, doc, pm, an, cdv, ct, osl, e, lk, hcd⟩
theorem fnG_of {f : Addr} {name qual : Str} {st : Stmt} {fd : FuncData} {ps : List Str} {k : Nat} {M : Str → Option Mi} {O : Orc} {E : SE} (hM : MOk M) (hO : OrcOk K O) (F : FunE K name qual st f fd) (hs : E.sc = defScope st) (S : FnScope E.N ps (defScope st))
    (hG : ∀ X : Cx, Same X P w K mg base k → ∀ x v, E.G x = some v → GOk X x v) : FnG P w K mg base (k + 1) f fd ps (fnD M O st E) := by
  obtain ⟨oc, od, dV, kV, doc, pm, an, cdv, ct, osl, rfl, lk, hcd⟩ := F.ex
  refine ⟨fun A outer s H args us vs Q E' hr gd e0 hb r hsp => ?_⟩
  have hl := hsp.1
  have KX : K.In s.heap := e0.mod.kin.keeps fun b o e => (e0.bs b o e).1
  have lim : s.heap.NoLimit := e0.mod.nolimit.keeps fun b o e => (e0.bs b o e).1
  have par : ∀ y ∈ ps.zip us, (defScope st).names.lookup y.1 = some .local ∨ ((defScope st).names.lookup y.1 = some .cell ∧ ((cellsFrom (s.heap.objs.size + 1) (defScope st).names []).lookup y.1).isSome = true) := fun ⟨n, v⟩ hy => by
    rcases S.par n (List.of_mem_zip hy).1 with q | q
    · exact .inl q
    · exact .inr ⟨q, PySem.W.cellsFrom_some _ _ _ (.inl q)⟩
  refine codeAny_call_function hr.depth (KX _ _ lk) rfl S.co S.gen rfl (PySem.W.codeRec_of KX hcd) (hb _ _ _ _ (wpAny_newFunctionEnv_cells S.kind par fun env he s1 x => ?_))
  subst he
  refine ⟨lim.keeps x.toInCall.keep, codeAny_func ?_⟩
  let X : Cx := cxOf (L2.CX P w) P w K mg base E.N qual (defScope st) f cdv A outer s H E'
  have I : Inv X [] (L2.start E.N vs) H s1 := inv_start S hr.hd e0 hl r x
  have room : Room k X.A := hr.deeper _
  have C : Ctx X (fun cls d _ H' => E' cls d H') E :=
    { n := rfl, sc := hs.symm, nd := S.nd, calm := rfl, gd := gd, un := room.units, tk := takes_of rfl rfl rfl rfl, fn := fun _ _ => rfl,
      g := hG X ⟨rfl, rfl, rfl, rfl, rfl, room⟩ }
  have SC : SCtx X (fun cls d _ H' => E' cls d H') E O := ⟨C, hO, passes_of rfl, rfl, rfl, S.kind⟩
  have body := dSs_ok hM (defBody st) E X _ SC
  obtain ⟨_, ι, S0, ds, rs, rd, post⟩ := hsp
  have t0 : tOfS X.K (fun cls d _ H' => E' cls d H') (dSs M O (defBody st) E) { nx := fun _ H' => Q .non H', rt := Q } (L2.start E.N vs) H := by
    refine ⟨ι, S0, startD E.N.length ds, rs, ros_start rd, ?_⟩
    unfold fnD fnB at post
    cases hb : dSs M O (defBody st) E (startD E.N.length ds) S0 with
    | nx δ S' => rw [hb] at post; exact fun σ' H' ι' g s _ => post .non H' ι' g s RD.mnon
    | rt d S' => rw [hb] at post; exact post
    | exc δ C' fs S' => rw [hb] at post; exact fun σ' H' ι' dd fs' g s _ hd rf => post H' ι' dd fs' g s hd rf
    | bk δ S' => rw [hb] at post; exact post.elim
    | ct δ S' => rw [hb] at post; exact post.elim
    | bad => rw [hb] at post; exact post.elim
  refine wpAny_mono (body.run [] s1 (L2.start E.N vs) H _ I t0) (fun fl s' hs => ?_) fun e s' hs => hs
  have fin : ∀ {σ' : L2.St} {H' : Hp} {v : V} {u : Value}, Inv X [] σ' H' s' → RelV v u → Q v H' → CE outer P w H s Q u s' := fun {σ' H' v u} J rv q => ⟨v, H', J.os, J.bare, J.base, J.hok, rv, q⟩
  cases fl with
  | ret u =>
    obtain ⟨v, σ', H', J, rv, q⟩ := hs
    exact fin J rv q
  | next =>
    obtain ⟨σ', H', J, q⟩ := hs
    exact fin (v := V.non) (u := Value.none) J rfl q
  | brk =>
    obtain ⟨_, _, _, q⟩ := hs
    exact False.elim q
  | cont =>
    obtain ⟨_, _, _, q⟩ := hs
    exact False.elim q
/-- the same upon another def that answers alike -/
theorem FnG.as {j : Nat} {f : Addr} {fd : FuncData} {ps : List Str} {g g' : Fn} (F : FnG P w K mg base j f fd ps g) (e : g = g') : FnG P w K mg base j f fd ps g' := e ▸ F
end
theorem hY_only {H : Hp} (h : Only H) : True := trivial
/-- the script -/
theorem law_do {P : Program} {w : World} {K : PySem.W.Frag} {mg mb : Str → Option Value} {k : Nat} {fa a : Addr} {fd : FuncData} {x : Str} {g : Fn} {s₁ : Shared} {vs : List Value} {ns : List Int}
    (KX : K.In s₁.heap) (hns : s₁.heap.Ns mainGlobals mg) (hb : s₁.heap.Ns builtinsNs mb) (hbb : ∀ x : Str, x ≠ "__name__" → mb x = bootBuiltins x) (hlim : s₁.heap.NoLimit) (hg : s₁.gens = #[])
    (ha : s₁.heap.get? a = some { cls := .type "list", data := .seq vs.toArray }) (hi : IntsAre vs ns) (hl : ns.length ≤ sizeLine) (hr : Room k callerA)
    (F : ∀ base : Heap, K.In base → base.Ns mainGlobals mg → FnG P w K mg base k fa fd [x] g) (hbind : ∀ (s : Shared) (u : Value), BindsTo s fd ⟨[u], []⟩ [(x, u)])
    (go : ∃ S', g [.rls (ns.map .int)] [] = .ok (.bl true) S') :
    codeAny (model P w) callerA (.call (.ref fa) ⟨[.ref a], []⟩) (fun r s' => r = .ok (.ret (.bool true)) ∧ OldK s₁.heap s'.heap ∧ s'.os = s₁.os ∧ AllBare s'.gens) s₁ := by
  obtain ⟨S', go⟩ := go
  have rv := vals_ints hi
  have lenV := hi.length
  have rds : ∀ (H : Hp) (l : List Int), RDs K H [] (l.map .int) (l.map V.int) := fun H l => by
    induction l with
    | nil => exact RDs.nil
    | cons i l ih => exact RDs.cons RD.mint ih
  have main : ∀ H : Hp, Only H → FrzL K H a (ns.map V.int) → HOk P w H s₁.heap → (∀ b, H b ≠ none → b = a) → (H a ≠ none → K.lookup a = none) →
      codeAny (model P w) callerA (.call (.ref fa) ⟨[.ref a], []⟩) (fun r s' => r = .ok (.ret (.bool true)) ∧ OldK s₁.heap s'.heap ∧ s'.os = s₁.os ∧ AllBare s'.gens) s₁ := by
    intro H only seqA hok alone inK
    have keepB : ∀ {b : Addr} {o : Obj}, s₁.heap.get? b = some o → H b = none → (hidT s₁.heap H).get? b = some o := fun e n => hidT_get e n
    have dictN : ∀ {b : Addr} {o : Obj} {es : Array DictEntry} {ep : Nat}, s₁.heap.get? b = some o → o.data = .dict es ep → H b = none := fun {b o es ep} e d => by
      cases q : H b with
      | none => rfl
      | some u =>
        obtain rfl := alone b (by rw [q]; simp)
        rw [ha] at e; cases e
        have d' : Data.seq vs.toArray _ = Data.dict es ep := d
        cases d'
    have nsB : ∀ {b : Addr} {m : Str → Option Value}, s₁.heap.Ns b m → (hidT s₁.heap H).Ns b m := fun {b m} ⟨o, es, ep, e, d, r⟩ => ⟨o, es, ep, keepB e (dictN e d), d, r⟩
    have kB : K.In (hidT s₁.heap H) := fun b o e => keepB (KX b o e) (by
      cases q : H b with
      | none => rfl
      | some u =>
        obtain rfl := alone b (by rw [q]; simp)
        rw [inK (by rw [q]; simp)] at e; cases e)
    have hM : Mod K mg (hidT s₁.heap H) := ⟨kB, nsB hns, ⟨mb, nsB hb, hbb⟩, let ⟨mc, h1, h2⟩ := hlim; ⟨mc, nsB h1, h2⟩⟩
    have e0 : Env0 P w K mg (hidT s₁.heap H) callerA [] s₁ H := ⟨rfl, hM, fun b o e => of_hidT e, Nat.le_of_eq (hidT_size _ _), trivial, fun b hb => absurd (show b ∈ ([] : List Addr) from hb) (by simp), hok, .of_eq hg⟩
    have sp : spD K g 1 [V.ref a] H (fun v _ => v = .bl true) fun _ _ _ => False := by
      refine ⟨rfl, [], [], [.rls (ns.map .int)], ⟨rfl, List.nodup_nil, fun k o b e => by simp at e⟩, RDs.cons ?_ RDs.nil, ?_⟩
      · unfold RD
        exact ⟨a, ns.map V.int, rfl, seqA, rds H ns⟩
      · rw [go]
        exact fun v H' ι' _ _ r => r.bl
    refine codeAny_mono ((F _ kB (nsB hns)).go callerA [] s₁ H ⟨[.ref a], []⟩ [.ref a] [.ref a] _ _ hr rfl e0 (hbind s₁ (.ref a)) (.cons rfl .nil) sp) fun r s' h => ?_
    cases r with
    | error e =>
      obtain ⟨_, _, _, _, _, _, _, _, _, _, _, _, z⟩ := h
      exact z.elim
    | ok fl =>
      cases fl with
      | ret u =>
        obtain ⟨v, H', os, bare, un, hok', r', q⟩ := h
        have q' : v = .bl true := q
        subst q'
        obtain rfl : u = Value.bool true := r'
        refine ⟨rfl, OldK.of_keep fun b o e => ?_, os, bare⟩
        cases q : H b with
        | none => exact un.keep b o e q (fun z => absurd (show b ∈ ([] : List Addr) from z) (by simp)) (by simp)
        | some u =>
          rcases only b with z | ⟨ob, xs, z⟩
          · rw [q] at z; cases z
          · obtain ⟨e1, _⟩ := hok b _ z
            obtain ⟨e2, _⟩ := hok' b _ (un.frzs b ob _ z)
            rw [e] at e1; cases e1
            exact e2
      | _ => exact False.elim h
  cases hk : K.lookup a with
  | some o =>
    have e := KX a o hk
    rw [ha] at e
    cases e
    exact main (fun _ => none) (fun _ => .inl rfl) (.inr ⟨_, vs.toArray, _, hk, rfl, rfl, rfl, by rw [List.size_toArray, lenV]; exact hl, by simpa using rv⟩) (fun b u z => by have z' : (none : Option HO) = some u := z; cases z') (fun b z => absurd rfl z) fun z => absurd rfl z
  | none =>
    refine main (fun b => if b = a then some (.frz { cls := .type "list", data := .seq vs.toArray } (.lst (ns.map V.int))) else none) (fun b => ?_) (.inl ⟨{ cls := .type "list", data := .seq vs.toArray }, if_pos rfl⟩) (fun b u z => ?_) (fun b z => ?_) fun _ => hk
    · by_cases hb : b = a
      · exact .inr ⟨_, _, if_pos hb⟩
      · exact .inl (if_neg hb)
    · by_cases hb : b = a
      · have z' := (if_pos hb).symm.trans z
        cases z'
        subst hb
        exact ⟨ha, by rw [List.length_map]; exact hl, vs, _, rv, ha⟩
      · have z' := (if_neg hb).symm.trans z
        cases z'
    · by_cases hb : b = a
      · exact hb
      · exact absurd (if_neg hb) z
/-- the goal that k_head leaves -/
theorem walk_do {l : PySem.W.OpenLaw} {n k : Nat} {q : Program} {loose : List Str} {XP : (Str → Option Value) → Heap → Prop} {YP : World → Heap → Prop} {d : DefRec} {K : Params → PySem.W.Frag} {x : Str}
    (hn : l.most = some n) (hn2 : n ≤ sizeLine) (hdf : d.params.defaults = []) (hr : Room k callerA) (hY : ∀ (w : World) (h : Heap), YP w h → (K w.params).In h)
    (F : ∀ (w : World) (mg : Str → Option Value) (fa : Addr) (h : Heap), YP w h → (K w.params).In h → h.Ns mainGlobals mg → mg d.name = some (.ref fa) →
      ∃ (fd : FuncData) (g : Fn), (∀ (s : Shared) (u : Value), BindsTo s fd ⟨[u], []⟩ [(x, u)]) ∧ (∀ ns : List Int, ns.length ≤ n → ∃ S', g [.rls (ns.map .int)] [] = .ok (.bl true) S') ∧
        ∀ base : Heap, (K w.params).In base → base.Ns mainGlobals mg → FnG l.prog w (K w.params) mg base k fa fd [x] g) :
    PySem.W.WalkO q loose XP YP l.row.toRowW d [] (fun f vs => PySem.call f vs) := by
  refine Att.attach_call hn hdf fun w s₀ s₁ mg mb fa o pm cd doc a vs ns G Y ho hd hcd hmg hobj hints hlen hg => ?_
  have KX := hY w _ Y
  obtain ⟨fd, g, hb, go, hF⟩ := F w mg fa _ Y KX G.T.g hmg
  exact law_do KX G.T.g G.T.b G.T.builtins G.T.nolimit hg hobj hints (Nat.le_trans hlen hn2) hr hF hb (go ns hlen)
end DL
set_option Elab.async false
set_option linter.all false
set_option maxRecDepth 100000
set_option maxHeartbeats 1000000
/-! DMax: max and min of a tuple of whole numbers. -/
namespace DL
open PySem PyProof.Rows L2
section
variable {prog : Program} {w : World} {A : Around} {E : Value → Shared → Prop} {s : Shared} {l : Addr} {xs : Array (Int × Tok)} {its : List Value} {ns : List Int} {Q : Value → Shared → Prop}
theorem iter_anyTup {vs : Array Value} (hl : s.heap.IsTuple l vs)
    (h : ∀ s₂ : Shared, s₂ = { s with heap := s.heap.push { cls := .type "tuple_iterator", data := .fields #[.ref l, .int 0 0] } } →
      (s₂.heap.IsTupleIter s.heap.objs.size l 0 ∧ s₂.heap.IsTuple l vs) → (∀ b ∈ [s.heap.objs.size, l], b < s₂.heap.objs.size) → l ≠ s.heap.objs.size → Q (.ref s.heap.objs.size) s₂) :
    wpAny (model prog w) A (pyIter (.ref l)) Q E s := by
  have hlt : l < s.heap.objs.size := by obtain ⟨_, e, _⟩ := hl; exact Heap.lt_size e
  refine wpAny_pyIter_tuple hl (h _ rfl ⟨⟨_, Heap.get?_push_size _ rfl, rfl, rfl⟩, hl.push _⟩ (fun b hb => ?_) (Nat.ne_of_lt hlt))
  show b < (s.heap.push _).objs.size
  rw [Heap.size_push]
  rcases List.mem_cons.mp hb with rfl | hb
  · exact Nat.lt_succ_self _
  · rcases List.mem_cons.mp hb with rfl | hb
    · exact Nat.lt_succ_of_lt hlt
    · cases hb
theorem old_keptT {h' : Heap} {o : Obj} (hk : ∀ b ob, b ∉ [s.heap.objs.size] → (s.heap.push o).get? b = some ob → h'.get? b = some ob) :
    ∀ b ob, s.heap.get? b = some ob → h'.get? b = some ob := fun b ob e => by
  refine hk b ob (fun hm => ?_) (Heap.get?_push_of_some _ e)
  rcases List.mem_cons.mp hm with e1 | hm
  · exact absurd (e1 ▸ Heap.lt_size e) (Nat.lt_irrefl _)
  · cases hm
theorem max_intTup (hh : A.handled = none) (hl : s.heap.IsTuple l (intItems xs)) (hne : 0 < xs.size)
    (h : ∀ v h' tk, (intItems xs)[argBest (fun i j => decide (numAt xs i > numAt xs j)) (xs.size - 1)]? = some v → (∀ b o, s.heap.get? b = some o → h'.get? b = some o) → Q v { s with heap := h', toks := tk }) :
    wpAny (model prog w) A (call (.builtin "max") [.ref l]) Q E s := by
  refine call_max_walk (iter_anyTup hl fun s₂ e st hfp hlI => ?_)
  subst e
  refine ⟨_, _, _, _, _, _, _, rfl, Walks.tuple (A := A.in1) hh _ l hlI (intItems xs), st, hfp, by simpa [intItems] using hne, CmpOf.ints_gt (numAt xs) (fun _ _ => intItems_at), fun v h' tk hP hk => ?_⟩
  exact h v h' tk (by simpa [intItems] using hP) (old_keptT hk)
theorem min_intTup (hh : A.handled = none) (hl : s.heap.IsTuple l (intItems xs)) (hne : 0 < xs.size)
    (h : ∀ v h' tk, (intItems xs)[argBest (fun i j => decide (numAt xs i < numAt xs j)) (xs.size - 1)]? = some v → (∀ b o, s.heap.get? b = some o → h'.get? b = some o) → Q v { s with heap := h', toks := tk }) :
    wpAny (model prog w) A (call (.builtin "min") [.ref l]) Q E s := by
  refine call_min_walk (iter_anyTup hl fun s₂ e st hfp hlI => ?_)
  subst e
  refine ⟨_, _, _, _, _, _, _, rfl, Walks.tuple (A := A.in1) hh _ l hlI (intItems xs), st, hfp, by simpa [intItems] using hne, CmpOf.ints_lt (numAt xs) (fun _ _ => intItems_at), fun v h' tk hP hk => ?_⟩
  exact h v h' tk (by simpa [intItems] using hP) (old_keptT hk)
theorem max_rawT (hh : A.handled = none) (hl : s.heap.IsTuple l its.toArray) (hi : IntsAre its ns) (hne : 0 < ns.length)
    (h : ∀ h' tk M t', (∀ b o, s.heap.get? b = some o → h'.get? b = some o) → M ∈ ns → (∀ a, a ∈ ns → a ≤ M) → Q (.int M t') { s with heap := h', toks := tk }) : wpAny (model prog w) A (call (.builtin "max") [.ref l]) Q E s := by
  obtain ⟨xs, e⟩ := hi.allInts.items
  have hn : numsOf (intItems xs).toList = ns := by rw [← e]; exact hi.numsOf
  rw [nums_intItems] at hn
  subst hn
  rw [e] at hl
  have hsz : 0 < xs.size := by simpa using hne
  refine max_intTup hh hl hsz fun v h' tk hv hk => ?_
  obtain ⟨t, rfl⟩ := intItems_at hv
  obtain ⟨h1, h2⟩ := argBest_gt (numAt xs) (xs.size - 1)
  refine h h' tk _ t hk ?_ fun a ha => ?_
  · rw [numAt_eq]; exact PySem.getD_mem (by rw [List.length_map, Array.length_toList]; omega)
  · obtain ⟨j, hj, rfl⟩ := mem_getD ha
    rw [List.length_map, Array.length_toList] at hj
    rw [← numAt_eq]; exact h2 j (by omega)
theorem min_rawT (hh : A.handled = none) (hl : s.heap.IsTuple l its.toArray) (hi : IntsAre its ns) (hne : 0 < ns.length)
    (h : ∀ h' tk M t', (∀ b o, s.heap.get? b = some o → h'.get? b = some o) → M ∈ ns → (∀ a, a ∈ ns → M ≤ a) → Q (.int M t') { s with heap := h', toks := tk }) : wpAny (model prog w) A (call (.builtin "min") [.ref l]) Q E s := by
  obtain ⟨xs, e⟩ := hi.allInts.items
  have hn : numsOf (intItems xs).toList = ns := by rw [← e]; exact hi.numsOf
  rw [nums_intItems] at hn
  subst hn
  rw [e] at hl
  have hsz : 0 < xs.size := by simpa using hne
  refine min_intTup hh hl hsz fun v h' tk hv hk => ?_
  obtain ⟨t, rfl⟩ := intItems_at hv
  obtain ⟨h1, h2⟩ := argBest_lt (numAt xs) (xs.size - 1)
  refine h h' tk _ t hk ?_ fun a ha => ?_
  · rw [numAt_eq]; exact PySem.getD_mem (by rw [List.length_map, Array.length_toList]; omega)
  · obtain ⟨j, hj, rfl⟩ := mem_getD ha
    rw [List.length_map, Array.length_toList] at hj
    rw [← numAt_eq]; exact h2 j (by omega)
end
section
variable {X : Cx}
def rMaxT (K : PySem.W.Frag) : List V → Hp → VK → Prop := fun vs H Q => ∃ (a : Addr) (ns : List Int), vs = [V.ref a] ∧ SqT K H a (ns.map V.int) ∧ 0 < ns.length ∧ ∀ m, m ∈ ns → (∀ y, y ∈ ns → y ≤ m) → Q (.int m) H
def rMinT (K : PySem.W.Frag) : List V → Hp → VK → Prop := fun vs H Q => ∃ (a : Addr) (ns : List Int), vs = [V.ref a] ∧ SqT K H a (ns.map V.int) ∧ 0 < ns.length ∧ ∀ m, m ∈ ns → (∀ y, y ∈ ns → m ≤ y) → Q (.int m) H
theorem cr_maxT (hc : X.calm = true) : CallR X (.builtin "max") (rMaxT X.K) := by
  intro pins s σ H vs us Q I r h
  obtain ⟨a, ns, rfl, hs, hne, q⟩ := h
  obtain ⟨its, rv, hl, _⟩ := I.tuple hs
  rw [Vals.ref1 r]
  exact max_rawT (I.ok.hd hc) (show s.heap.IsTuple a its.toArray from hl) rv.ints hne fun h' tk m t' hk h1 h2 => ⟨.int _, H, I.kept hk, ⟨_, rfl⟩, q m h1 h2⟩
theorem cr_minT (hc : X.calm = true) : CallR X (.builtin "min") (rMinT X.K) := by
  intro pins s σ H vs us Q I r h
  obtain ⟨a, ns, rfl, hs, hne, q⟩ := h
  obtain ⟨its, rv, hl, _⟩ := I.tuple hs
  rw [Vals.ref1 r]
  exact min_rawT (I.ok.hd hc) (show s.heap.IsTuple a its.toArray from hl) rv.ints hne fun h' tk m t' hk h1 h2 => ⟨.int _, H, I.kept hk, ⟨_, rfl⟩, q m h1 h2⟩
end
end DL
set_option Elab.async false
set_option linter.all false
set_option maxRecDepth 100000
set_option maxHeartbeats 1000000
/-! DStd: the built-ins by name; append. -/
namespace DL
open PySem L2
def biIsi : Bi := ⟨"isinstance", .builtin "isinstance", isiD⟩
def biAbs : Bi := ⟨"abs", .builtin "abs", one absD⟩
def biLen : Bi := ⟨"len", .builtin "len", one lenD⟩
noncomputable def biRepr : Bi := ⟨"repr", .builtin "repr", one reprD⟩
def biAll : Bi := ⟨"all", .builtin "all", one allD⟩
def biAny : Bi := ⟨"any", .builtin "any", one anyD⟩
def biSum : Bi := ⟨"sum", .builtin "sum", one sumD⟩
def biInt : Bi := ⟨"int", .type "int", one intD⟩
def biStr : Bi := ⟨"str", .type "str", one strD⟩
def biTuple : Bi := ⟨"tuple", .type "tuple", one tupleD⟩
def biList : Bi := ⟨"list", .type "list", one listD⟩
/-- a built-in type, only named -/
def biTy (x : Str) (T : String) : Bi := ⟨x, .type T, fun _ _ => none⟩
theorem CallR.none {X : Cx} {f : Value} : CallR X f (rOfL X.K fun _ _ => none) := fun _ _ _ _ _ _ _ _ _ ⟨_, _, _, _, _, q⟩ => q.elim
theorem ok_isi : BiOk biIsi := ⟨PyProof.Rows.Boot.«isinstance», .inl ⟨_, rfl⟩, by decide, by decide, fun X _ _ _ => cd_isi⟩
theorem ok_abs : BiOk biAbs := ⟨PyProof.Rows.Boot.«abs», .inl ⟨_, rfl⟩, by decide, by decide, fun X _ _ _ => cd_abs.lift⟩
theorem ok_len : BiOk biLen := ⟨PyProof.Rows.Boot.«len», .inl ⟨_, rfl⟩, by decide, by decide, fun X _ _ _ => cd_len.lift⟩
theorem ok_repr : BiOk biRepr := ⟨PyProof.Rows.Boot.«repr», .inl ⟨_, rfl⟩, by decide, by decide, fun X _ h u => (cd_repr h u).lift⟩
theorem ok_all : BiOk biAll := ⟨PyProof.Rows.Boot.«all», .inl ⟨_, rfl⟩, by decide, by decide, fun X h _ _ => (cd_all h).lift⟩
theorem ok_any : BiOk biAny := ⟨PyProof.Rows.Boot.«any», .inl ⟨_, rfl⟩, by decide, by decide, fun X h _ _ => (cd_any h).lift⟩
theorem ok_sum : BiOk biSum := ⟨PyProof.Rows.Boot.«sum», .inl ⟨_, rfl⟩, by decide, by decide, fun X h _ _ => (cd_sum h).lift⟩
theorem ok_int : BiOk biInt := ⟨PyProof.Rows.Boot.«int», .inr ⟨_, rfl⟩, by decide, by decide, fun X _ _ _ => cd_int.lift⟩
theorem ok_str : BiOk biStr := ⟨PyProof.Rows.Boot.«str», .inr ⟨_, rfl⟩, by decide, by decide, fun X _ _ _ => cd_str.lift⟩
theorem ok_tuple : BiOk biTuple := ⟨PyProof.Rows.Boot.«tuple», .inr ⟨_, rfl⟩, by decide, by decide, fun X _ _ _ => cd_tuple.lift⟩
theorem ok_list : BiOk biList := ⟨PyProof.Rows.Boot.«list», .inr ⟨_, rfl⟩, by decide, by decide, fun X _ _ _ => cd_list.lift⟩
theorem ok_bool : BiOk (biTy "bool" "bool") := ⟨PyProof.Rows.Boot.«bool», .inr ⟨_, rfl⟩, by decide, by decide, fun X _ _ _ => CallR.none⟩
theorem ok_dict : BiOk (biTy "dict" "dict") := ⟨PyProof.Rows.Boot.«dict», .inr ⟨_, rfl⟩, by decide, by decide, fun X _ _ _ => CallR.none⟩
/-! min, max -/
def minD : GL
  | [.int i, .int j], S => some (.int (if j < i then j else i), S)
  | [.tup ds], S => match intsD ds with
    | some ns => match ns.min? with
      | some m => some (.int m, S)
      | none => none
    | none => none
  | [d], S => match itemsD d S with
    | some ds => match intsD ds with
      | some ns => match ns.min? with
        | some m => some (.int m, S)
        | none => none
      | none => none
    | none => none
  | _, _ => none
def maxD : GL
  | [.int i, .int j], S => some (.int (if j > i then j else i), S)
  | [.tup ds], S => match intsD ds with
    | some ns => match ns.max? with
      | some m => some (.int m, S)
      | none => none
    | none => none
  | [d], S => match itemsD d S with
    | some ds => match intsD ds with
      | some ns => match ns.max? with
        | some m => some (.int m, S)
        | none => none
      | none => none
    | none => none
  | _, _ => none
theorem cd_min {X : Cx} (hc : X.calm = true) : CallR X (.builtin "min") (rOfL X.K minD) := by
  intro pins s σ H xs us Q I r h
  obtain ⟨ι, S, ds, rs, rd, q⟩ := h
  unfold minD at q
  split at q
  · obtain ⟨v, u, rfl, r1, r2⟩ := rds2 rd
    rw [r1.int, r2.int] at r
    exact call_min2 hc pins s σ H _ us Q I r ⟨_, _, rfl, q.val rs RD.mint⟩
  · obtain ⟨v, rfl, r1⟩ := rds1 rd
    split at q
    · rename_i ns hn
      split at q
      · rename_i m hm
        obtain ⟨a, vs, rfl, h1, h2⟩ := r1.tup
        obtain rfl := intsD_ok h2 hn
        obtain ⟨m1, m2⟩ := List.min?_eq_some_iff.mp hm
        refine cr_minT hc pins s σ H _ us Q I r ⟨a, ns, rfl, h1, List.length_pos_of_mem m1, fun m' e1 e2 => ?_⟩
        have : m' = m := Int.le_antisymm (e2 m m1) (m2 m' e1)
        subst this
        exact q.val rs RD.mint
      · exact q.elim
    · exact q.elim
  · obtain ⟨v, rfl, r1⟩ := rds1 rd
    split at q
    · rename_i es hs
      split at q
      · rename_i ns hn
        split at q
        · rename_i m hm
          obtain ⟨a, vs, rfl, h1, h2⟩ := itemsD_ok rs r1 hs
          obtain rfl := intsD_ok h2 hn
          obtain ⟨m1, m2⟩ := List.min?_eq_some_iff.mp hm
          refine cr_min hc pins s σ H _ us Q I r ⟨a, ns, rfl, h1, List.length_pos_of_mem m1, fun m' e1 e2 => ?_⟩
          have : m' = m := Int.le_antisymm (e2 m m1) (m2 m' e1)
          subst this
          exact q.val rs RD.mint
        · exact q.elim
      · exact q.elim
    · exact q.elim
  · exact q.elim
theorem cd_max {X : Cx} (hc : X.calm = true) : CallR X (.builtin "max") (rOfL X.K maxD) := by
  intro pins s σ H xs us Q I r h
  obtain ⟨ι, S, ds, rs, rd, q⟩ := h
  unfold maxD at q
  split at q
  · obtain ⟨v, u, rfl, r1, r2⟩ := rds2 rd
    rw [r1.int, r2.int] at r
    exact call_max2 hc pins s σ H _ us Q I r ⟨_, _, rfl, q.val rs RD.mint⟩
  · obtain ⟨v, rfl, r1⟩ := rds1 rd
    split at q
    · rename_i ns hn
      split at q
      · rename_i m hm
        obtain ⟨a, vs, rfl, h1, h2⟩ := r1.tup
        obtain rfl := intsD_ok h2 hn
        obtain ⟨m1, m2⟩ := List.max?_eq_some_iff.mp hm
        refine cr_maxT hc pins s σ H _ us Q I r ⟨a, ns, rfl, h1, List.length_pos_of_mem m1, fun m' e1 e2 => ?_⟩
        have : m' = m := Int.le_antisymm (m2 m' e1) (e2 m m1)
        subst this
        exact q.val rs RD.mint
      · exact q.elim
    · exact q.elim
  · obtain ⟨v, rfl, r1⟩ := rds1 rd
    split at q
    · rename_i es hs
      split at q
      · rename_i ns hn
        split at q
        · rename_i m hm
          obtain ⟨a, vs, rfl, h1, h2⟩ := itemsD_ok rs r1 hs
          obtain rfl := intsD_ok h2 hn
          obtain ⟨m1, m2⟩ := List.max?_eq_some_iff.mp hm
          refine cr_max hc pins s σ H _ us Q I r ⟨a, ns, rfl, h1, List.length_pos_of_mem m1, fun m' e1 e2 => ?_⟩
          have : m' = m := Int.le_antisymm (m2 m' e1) (e2 m m1)
          subst this
          exact q.val rs RD.mint
        · exact q.elim
      · exact q.elim
    · exact q.elim
  · exact q.elim
def biMin : Bi := ⟨"min", .builtin "min", minD⟩
def biMax : Bi := ⟨"max", .builtin "max", maxD⟩
theorem ok_min : BiOk biMin := ⟨PyProof.Rows.Boot.«min», .inl ⟨_, rfl⟩, by decide, by decide, fun X h _ _ => cd_min h⟩
theorem ok_max : BiOk biMax := ⟨PyProof.Rows.Boot.«max», .inl ⟨_, rfl⟩, by decide, by decide, fun X h _ _ => cd_max h⟩
/-! append -/
def appD : D → List D → SS → Option (D × SS)
  | .ref k, [x], S => match S[k]? with
    | some (.lst ds) => if ds.length < sizeLine then some (.non, S.set k (.lst (ds ++ [x]))) else none
    | _ => none
  | _, _, _ => none
def miApp : Mi := ⟨"list", "list.append", appD⟩
theorem ok_app : MiOk "append" miApp where
  pa := PySem.F.plainAttrs_list
  sl := PySem.F.slot_list_append
  ty := PySem.F.type_list_append
  call := by
    intro X _ _ _ pins s σ H x xs v us Q I rx rxs h
    refine mt_append pins s σ H x xs v us Q I rx rxs ?_
    obtain ⟨ι, S, d, ds, rs, rd, rds, q⟩ := h
    have q : PostN X.K ι H (appD d ds S) Q := q
    unfold appD at q
    split at q
    · rename_i k y
      split at q
      · rename_i es hk
        split at q
        · rename_i hl
          obtain ⟨a, vs, rfl, h0, h1, h2⟩ := rs.lst hk rd
          unfold RDs at rds
          obtain ⟨w, r', rfl, r1, r2⟩ := rds
          unfold RDs at r2
          subst r2
          refine ⟨a, vs, w, rfl, rfl, h1, by rw [← h2.length]; exact hl, ?_⟩
          have gw : Gr X.K H ι (upd H a (.lst (vs ++ [w]))) ι := Gr.write rs h0
          exact q _ _ ι gw (rs.write (ob := .lst (es ++ [_])) h0 ⟨_, upd_same, (h2.append (RDs.cons r1 RDs.nil)).mono gw⟩) RD.mnon
        · exact q.elim
      · exact q.elim
    · exact q.elim
def stdM : Str → Option Mi := fun m => if m = "append" then some miApp else none
theorem stdM_ok : MOk stdM := fun n mi h => by
  unfold stdM at h
  split at h
  · rename_i e
    cases h
    subst e
    exact ok_app
  · cases h
end DL
set_option Elab.async false
set_option linter.all false
set_option maxRecDepth 100000
/-! DEnd: small words for the laws. -/
namespace DL
open PySem L2
/-- the one statement of a try's clause -/
def hndSt (st : Stmt) (k j : Nat) : Stmt := match (defBody st)[k]? with
  | some (.Try _ hs _ _ _) => (match hs[j]? with
    | some (.ExceptHandler _ _ bd _) => bd.headD (.Pass ⟨0, 0, 0, 0⟩)
    | none => .Pass ⟨0, 0, 0, 0⟩)
  | _ => .Pass ⟨0, 0, 0, 0⟩
end DL
set_option Elab.async false
set_option linter.all false
set_option maxRecDepth 100000
set_option maxHeartbeats 1000000
/-! DLink: from what the text has written to what its defs do. -/
namespace DL
open PySem L2
section
variable {P : Program} {w : World} {K : PySem.W.Frag} {mg : Str → Option Value} {base : Heap}
/-- a def of the text -/
def DefOk (K : PySem.W.Frag) (mg : Str → Option Value) (x : Str) (st : Stmt) (ps : List Str) : Prop := ∃ f fd, mg x = some (.ref f) ∧ PySem.W.keepIn K (.ref f) = true ∧ L2.Fun K x x st f fd ∧ Binds K fd ps [] ∧ ∀ (s : Shared) (us : List Value), us.length = ps.length → BindsTo s fd ⟨us, []⟩ (ps.zip us)
def CalG (P : Program) (w : World) (K : PySem.W.Frag) (mg : Str → Option Value) (base : Heap) (k : Nat) (x : Str) (ps : List Str) (g : Fn) : Prop :=
  ∃ f fd, mg x = some (.ref f) ∧ PySem.W.keepIn K (.ref f) = true ∧ FnG P w K mg base k f fd ps g ∧ Binds K fd ps []
theorem def_ok {x : Str} {st : Stmt} {ps : List Str} {h : Heap} {f : Addr} {oc : Value} {od an : Option Addr} {osl : Array (Option Value)} {kV doc pm cdv ct : Value} (X : K.In h) (G : h.Ns mainGlobals mg) (a : PySem.W.nsIn K mainGlobals x = some (some (.ref f)))
    (l : K.lookup f = some ⟨oc, od, .func (PySem.W.fnOf x x (defArgs st) (defBody st) (defScope st) .none kV doc pm an cdv ct), osl⟩) (c : PySem.W.codeIn K cdv x = true) (k : PySem.W.keepIn K (.ref f) = true)
    (b : ∀ (kV doc pm : Value) (an : Option Addr) (cdv ct : Value) (us : List Value), us.length = ps.length → bindArgs (PySem.W.fnOf x x (defArgs st) (defBody st) (defScope st) .none kV doc pm an cdv ct) ⟨us, []⟩ = pure (ps.zip us)) : DefOk K mg x st ps :=
  ⟨f, _, PySem.W.mg_of X G a, k, fun_mk l c k, (fun_mk l c k).binds b, fun s us hu => .of_eq (b _ _ _ _ _ _ us hu)⟩
theorem cal_of {x : Str} {st : Stmt} {ps : List Str} {k : Nat} {M : Str → Option Mi} {O : Orc} {E : SE} (hM : MOk M) (hO : OrcOk K O) (d : DefOk K mg x st ps) (hs : E.sc = defScope st) (S : FnScope E.N ps (defScope st))
    (hG : ∀ X : Cx, Same X P w K mg base k → ∀ x v, E.G x = some v → GOk X x v) : CalG P w K mg base (k + 1) x ps (fnD M O st E) := by
  obtain ⟨f, fd, h1, h2, h3, h4, _⟩ := d
  exact ⟨f, fd, h1, h2, fnG_of hM hO (.of h3) hs S hG, h4⟩
/-- a def of which nothing is said -/
theorem cal_bad {x : Str} {st : Stmt} {ps : List Str} {k : Nat} (d : DefOk K mg x st ps) : CalG P w K mg base k x ps (fun _ _ => .bad) := by
  obtain ⟨f, fd, h1, h2, h3, h4, _⟩ := d
  exact ⟨f, fd, h1, h2, ⟨fun A outer s H args us vs Q E _ _ _ _ _ ⟨_, _, _, _, _, _, h⟩ => h.elim⟩, h4⟩
/-- a value of the module, whatever the heap -/
def KV (K : PySem.W.Frag) (u : Value) (d : D) : Prop := ∃ v, RelV v u ∧ ∀ H ι, RD K H ι d v
/-- a def whose last parameter has a default -/
def DefOkD (K : PySem.W.Frag) (mg : Str → Option Value) (x : Str) (st : Stmt) (ps : List Str) (d : D) : Prop := ∃ f fd, mg x = some (.ref f) ∧ PySem.W.keepIn K (.ref f) = true ∧ FunE K x x st f fd ∧ Binds K fd ps [] ∧ ∃ dv v, Binds K fd ps [dv] ∧ RelV v dv ∧ ∀ H ι, RD K H ι d v
def CalD (P : Program) (w : World) (K : PySem.W.Frag) (mg : Str → Option Value) (base : Heap) (k : Nat) (x : Str) (ps : List Str) (g : Fn) (d : D) : Prop :=
  ∃ f fd, mg x = some (.ref f) ∧ PySem.W.keepIn K (.ref f) = true ∧ FnG P w K mg base k f fd ps g ∧ Binds K fd ps [] ∧ ∃ dv v, Binds K fd ps [dv] ∧ RelV v dv ∧ ∀ H ι, RD K H ι d v
theorem def_okD {x : Str} {st : Stmt} {ps : List Str} {h : Heap} {f T : Addr} {oc u : Value} {od an dd : Option Addr} {osl sl : Array (Option Value)} {kV doc pm cdv ct : Value} {n : Nat} {d : D} (X : K.In h) (G : h.Ns mainGlobals mg) (a : PySem.W.nsIn K mainGlobals x = some (some (.ref f)))
    (l : K.lookup f = some ⟨oc, od, .func (PySem.W.fnOf x x (defArgs st) (defBody st) (defScope st) (.ref T) kV doc pm an cdv ct), osl⟩) (c : PySem.W.codeIn K cdv x = true) (k : PySem.W.keepIn K (.ref f) = true)
    (lT : K.lookup T = some ⟨.type "tuple", dd, .seq ([u] : List Value).toArray n, sl⟩) (hu : KV K u d)
    (b : ∀ (kV doc pm : Value) (an : Option Addr) (cdv ct : Value) (us : List Value), us.length = ps.length → ∃ k, bindArgs (PySem.W.fnOf x x (defArgs st) (defBody st) (defScope st) (.ref T) kV doc pm an cdv ct) ⟨us, []⟩ = seqItems? (.ref T) >>= k ∧ k (some ([u] : List Value).toArray) = pure (ps.zip us))
    (b2 : ∀ (kV doc pm : Value) (an : Option Addr) (cdv ct : Value) (us : List Value), us.length + 1 = ps.length → ∃ k, bindArgs (PySem.W.fnOf x x (defArgs st) (defBody st) (defScope st) (.ref T) kV doc pm an cdv ct) ⟨us, []⟩ = seqItems? (.ref T) >>= k ∧ k (some ([u] : List Value).toArray) = pure (ps.zip (us ++ [u]))) : DefOkD K mg x st ps d := by
  obtain ⟨v, h1, h2⟩ := hu
  refine ⟨f, _, PySem.W.mg_of X G a, k, ⟨oc, od, _, kV, doc, pm, an, cdv, ct, osl, rfl, l, c⟩, fun s us X' hl => ?_, u, v, fun s us X' hl => ?_, h1, h2⟩
  · rw [List.append_nil] at hl ⊢
    refine BindsTo.of_looks fun M => ?_
    obtain ⟨k, e1, e2⟩ := b kV doc pm an cdv ct us hl
    rw [e1]
    exact looks_items X' lT rfl (.of_pure e2)
  · obtain ⟨k, e1, e2⟩ := b2 kV doc pm an cdv ct us (by simpa using hl)
    refine BindsTo.of_looks fun M => ?_
    rw [e1]
    exact looks_items X' lT rfl (.of_pure e2)
theorem cal_ofD {x : Str} {st : Stmt} {ps : List Str} {k : Nat} {M : Str → Option Mi} {O : Orc} {E : SE} {d : D} (hM : MOk M) (hO : OrcOk K O) (D : DefOkD K mg x st ps d) (hs : E.sc = defScope st) (S : FnScope E.N ps (defScope st))
    (hG : ∀ X : Cx, Same X P w K mg base k → ∀ x v, E.G x = some v → GOk X x v) : CalD P w K mg base (k + 1) x ps (fnD M O st E) d := by
  obtain ⟨f, fd, h1, h2, h3, h4, h5⟩ := D
  exact ⟨f, fd, h1, h2, fnG_of hM hO h3 hs S hG, h4, h5⟩
/-- every entry of a table -/
def GAll (X : Cx) : List (Str × GV) → Prop
  | [] => True
  | p :: r => GOk X p.1 p.2 ∧ GAll X r
theorem GAll.cons {X : Cx} {p : Str × GV} {r : List (Str × GV)} (h : GOk X p.1 p.2) (t : GAll X r) : GAll X (p :: r) := ⟨h, t⟩
theorem GAll.nil {X : Cx} : GAll X [] := trivial
theorem g_list {X : Cx} : ∀ {l : List (Str × GV)}, GAll X l → ∀ x v, List.lookup x l = some v → GOk X x v
  | [], _, x, v, h => by cases h
  | (y, u) :: r, a, x, v, h => by
    rw [List.lookup_cons] at h
    cases hb : x == y with
    | true =>
      rw [hb] at h
      cases h
      rw [eq_of_beq hb]
      exact a.1
    | false =>
      rw [hb] at h
      exact g_list a.2 x v h
theorem gok_bi {X : Cx} {k : Nat} {b : Bi} (S : Same X P w K mg base k) (hm : mg b.name = none) (hb : BiOk b) : GOk X b.name (.bi b) := ⟨rfl, by rw [S.mg]; exact hm, hb⟩
theorem gok_it {X : Cx} {k : Nat} {x : Str} (S : Same X P w K mg base k) (hm : mg x = none) : GOk X x .it := by
  show X.mg x = none
  rw [S.mg]
  exact hm
theorem gok_fn {X : Cx} {j k : Nat} {x : Str} {ps : List Str} {g : Fn} (S : Same X P w K mg base k) (h : CalG P w K mg base j x ps g) (hj : j ≤ k) (hd : (x == ("__debug__" : Str)) = false) : GOk X x (.fn g ps.length) := by
  obtain ⟨f, fd, h1, h2, h3, h4⟩ := h
  obtain ⟨rfl, rfl, rfl, rfl, rfl, r⟩ := S
  exact ⟨hd, f, fd, ps, j, h1, h2, h3, rfl, r.mono hj, h4⟩
theorem gok_fnd {X : Cx} {j k : Nat} {x : Str} {ps : List Str} {g : Fn} {d : D} (S : Same X P w K mg base k) (h : CalD P w K mg base j x ps g d) (hj : j ≤ k) (hd : (x == ("__debug__" : Str)) = false) : GOk X x (.fnd g ps.length d) := by
  obtain ⟨f, fd, h1, h2, h3, h4, h5⟩ := h
  obtain ⟨rfl, rfl, rfl, rfl, rfl, r⟩ := S
  exact ⟨hd, f, fd, ps, j, h1, h2, h3, rfl, r.mono hj, h4, h5⟩
theorem gok_int {X : Cx} {k : Nat} {x : Str} {i : Int} {t : Tok} (S : Same X P w K mg base k) (hm : mg x = some (.int i t)) (hd : (x == ("__debug__" : Str)) = false) : GOk X x (.val (.int i)) :=
  ⟨hd, _, .int i, by rw [S.mg]; exact hm, ⟨t, rfl⟩, fun _ _ => RD.mint⟩
theorem gok_str {X : Cx} {k : Nat} {x : Str} {i : Str} {t : Tok} (S : Same X P w K mg base k) (hm : mg x = some (.str i t)) (hd : (x == ("__debug__" : Str)) = false) : GOk X x (.val (.str i)) :=
  ⟨hd, _, .str i, by rw [S.mg]; exact hm, ⟨t, rfl⟩, fun _ _ => RD.mstr⟩
theorem gok_gl {X : Cx} {k : Nat} {x : Str} {C : Addr} (S : Same X P w K mg base k) (hm : mg x = some (.ref C)) (hd : (x == ("__debug__" : Str)) = false) : GOk X x (.val (.gl C)) :=
  ⟨hd, _, .ref C, by rw [S.mg]; exact hm, rfl, fun _ _ => by unfold RD; rfl⟩
theorem gok_ex {X : Cx} {k : Nat} {x : Str} {C : Addr} {fs : List Str} (S : Same X P w K mg base k) (hk : 1 ≤ k) (hm : mg x = some (.ref C)) (h : ExcG P w K mg base C fs) (hd : (x == ("__debug__" : Str)) = false) : GOk X x (.ex C fs) := by
  obtain ⟨rfl, rfl, rfl, rfl, rfl, r⟩ := S
  exact ⟨hd, hm, h, r.mono hk⟩
def KVs (K : PySem.W.Frag) (us : List Value) (ds : List D) : Prop := ∃ vs, Vals vs us ∧ ∀ H ι, RDs K H ι ds vs
theorem kv_int {i : Int} {t : Tok} : KV K (.int i t) (.int i) := ⟨.int i, ⟨t, rfl⟩, fun _ _ => RD.mint⟩
theorem kv_str {i : Str} {t : Tok} : KV K (.str i t) (.str i) := ⟨.str i, ⟨t, rfl⟩, fun _ _ => RD.mstr⟩
theorem kv_non : KV K .none .non := ⟨.non, rfl, fun _ _ => RD.mnon⟩
theorem kv_bl {b : Bool} : KV K (.bool b) (.bl b) := ⟨.bl b, rfl, fun _ _ => RD.mbl⟩
theorem kvs_nil : KVs K [] [] := ⟨[], .nil, fun _ _ => RDs.nil⟩
theorem kvs_cons {u : Value} {us : List Value} {d : D} {ds : List D} (a : KV K u d) (b : KVs K us ds) : KVs K (u :: us) (d :: ds) := by
  obtain ⟨v, h1, h2⟩ := a
  obtain ⟨vs, h3, h4⟩ := b
  exact ⟨v :: vs, .cons h1 h3, fun H ι => RDs.cons (h2 H ι) (h4 H ι)⟩
theorem kv_tup {a : Addr} {us : List Value} {ds : List D} {n : Nat} {dd : Option Addr} {sl : Array (Option Value)} (l : K.lookup a = some ⟨.type "tuple", dd, .seq us.toArray n, sl⟩) (hz : us.length ≤ sizeLine) (h : KVs K us ds) : KV K (.ref a) (.tup ds) := by
  obtain ⟨vs, h1, h2⟩ := h
  refine ⟨.ref a, rfl, fun H ι => ?_⟩
  unfold RD
  exact ⟨a, vs, rfl, .inr ⟨_, us.toArray, n, l, rfl, rfl, by simpa using hz, by simpa using h1⟩, h2 H ι⟩
theorem gok_kv {X : Cx} {k : Nat} {x : Str} {u : Value} {d : D} (S : Same X P w K mg base k) (hm : mg x = some u) (h : KV K u d) (hd : (x == ("__debug__" : Str)) = false) : GOk X x (.val d) := by
  obtain ⟨v, h1, h2⟩ := h
  obtain ⟨rfl, rfl, rfl, rfl, rfl, r⟩ := S
  exact ⟨hd, u, v, hm, h1, h2⟩
/-- which error is below which class -/
theorem orc_pair {C c : Addr} {b : Bool} (h1 : PySem.W.subIn K (.ref c) (.type "BaseException") = some true) (hd : PySem.W.hasDictIn K c = true) (ht : PySem.W.typeIn K (.ref c) = some (.type "type")) (h : PySem.W.subIn K (.ref C) (.ref c) = some b) (self : PySem.W.subIn K (.ref C) (.ref C) = some true) :
    PySem.W.exmOne K (.ref C) (.ref c) = some b ∧ PySem.W.kitOne K (.ref C) (.ref c) = some b := by
  have e := PySem.W.exm_ref h1 hd ht h
  refine ⟨e, ?_⟩
  unfold PySem.W.kitOne
  split
  · rename_i q
    have q : Value.ref C = Value.ref c := eq_of_beq q
    cases q
    rw [self] at h
    exact h
  · unfold PySem.W.exmOne at e
    rw [if_pos (by rw [h1] <;> rfl)] at e
    exact e
/-- what the written part says of a class of errors that is caught -/
structure ErrK (K : PySem.W.Frag) (C : Addr) : Prop where
  ga : PySem.W.findIn K (.ref C) "__getattribute__" = some (some (.builtin "BaseException.__getattribute__"))
  gg : PySem.W.findIn K (.ref C) "__getattr__" = some none
  ex : PySem.W.subIn K (.ref C) (.type "BaseException") = some true
  hd : PySem.W.hasDictIn K C = true
  cl : PySem.W.findIn K (.ref C) "__class__" = some (some (.builtin "object.__class__"))
  sp : PySem.W.specialIn K (.builtin "object.__class__") "__get__" = some (some (.builtin "getset_descriptor.__get__"))
  tk : PySem.W.takesIn K (.builtin "object.__class__") = some true
  ob : PySem.W.mroIn K C (.type "object") = some true
theorem ErrK.c {C : Addr} (h : ErrK K C) : ExcC K C := ⟨h.ga, h.gg, h.ex, h.hd, h.cl, h.sp, h.tk, h.ob⟩
theorem ErrK.x {C : Addr} (h : ErrK K C) : XfC K C := ⟨h.ga, h.gg, h.ex, h.hd⟩
theorem lit1 {f : Str} {P : Str → Prop} (h : P f) : ∀ g ∈ [f], P g := fun g hg => by simp at hg; subst hg; exact h
theorem lit2 {f f' : Str} {P : Str → Prop} (h : P f) (h' : P f') : ∀ g ∈ [f, f'], P g := fun g hg => by
  simp at hg
  rcases hg with rfl | rfl
  · exact h
  · exact h'
open PySem.HandSPX PySem.W in
/-- a class of errors, from the text -/
theorem ini_mk {prog : Program} {names : List Str} {ar : Arguments} {bd : List PySem.Stmt} {C D fI : Addr} {nm q : Str} {N : Addr} {bs bm : List Value} {sn : List Str} {sub : List Value} {ab : Bool} {col : Option Bool} {dd : Option Addr} {k0 k1 k2 k3 k5 : Option Value}
    {qual : Str} {scope : Scope} {doc pm ct : Value} {an : Option Addr} {cda cc : Addr} {oc : Value} {od : Option Addr} {osl : Array (Option Value)} {ccl : Value} {cdd : Option Addr} {vs : Array Value} {ccs : Array (Option Value)} {file : Str} {tf : Tok} {cl : Value} {cld : Option Addr} {csl : Array (Option Value)} {cdD : ClassData}
    (xC : K.lookup C = some (excClassObj nm q C N bs bm true sn sub ab col dd k0 k1 k2 k3 k5 "ValueError.__new__")) (sa : PySem.W.findIn K (.ref C) "__setattr__" = some (some (.builtin "object.__setattr__")))
    (iC : PySem.W.findIn K (.ref C) "__init__" = some (some (.ref fI))) (tC : PySem.W.typeIn K (.ref fI) = some (.type "function"))
    (lF : K.lookup fI = some ⟨oc, od, .func (ksFn "__init__" qual ar bd scope .none .none doc pm an (.ref cda) ct cc), osl⟩) (cI : PySem.W.codeIn K (.ref cda) qual = true)
    (lcd : K.lookup cda = some ⟨ccl, cdd, .fields vs, ccs⟩) (h2 : vs[2]? = some (.str file tf)) (hfile : ((prog.main.file : Str) == file) = true) (lcc : K.lookup cc = some ⟨cl, cld, .cell (some (.ref D)), csl⟩) (hD : PySem.W.clsIn K D = some cdD)
    (hsub : PySem.W.mroIn K C (.ref D) = some true) (sup : PySem.W.ks_superIn K C D "__init__" = some (some (.builtin "ValueError.__init__"))) (opq : PySem.W.nsIn K cStatics "thirdparty.any" = some none) (isVE : PySem.W.subIn K (.ref C) (.type "ValueError") = some true)
    (kC : PySem.W.keepIn K (.ref C) = true) (exC : PySem.W.subIn K (.ref C) (.type "BaseException") = some true) (tyC : PySem.W.typeIn K (.ref C) = some (.type "type")) (no : ∀ f ∈ names, PySem.W.findIn K (.ref C) f = some none)
    (rv : refsVE bm = true) (s1 : scope.kind = .function) (s2 : scope.isCoroutine = false) (s3 : scope.isGenerator = false) (s4 : ∀ x ∈ scope.names, x.2 ≠ .cell)
    (s5 : scope.names.lookup ("super" : Str) = some .globalImplicit) (s6 : scope.names.lookup ("__class__" : Str) = some .free) (s7 : scope.names.lookup ("self" : Str) = some .local) (s8 : ∀ f ∈ names, scope.names.lookup f = some .local)
    (top : (prog.main.scope.names.lookup ("super" : Str)).isSome = false) (sup0 : mg "super" = none) : IniT prog K mg C D fI names ar bd where
  tx := ⟨⟨_, _, _, _, _, _, _, _, _, _, _, _, _, _, _, xC, rv⟩, sa, no, iC, tC, ⟨qual, scope, doc, pm, ct, an, cda, cc, oc, od, osl, ccl, cdd, vs, ccs, file, tf, cl, cld, csl, cdD, lF, cI, lcd, h2, hfile, lcc, hD, s1, s2, s3, s4, s5, s6, s7, s8⟩, hsub, top, sup, opq, isVE⟩
  kC := kC
  exC := exC
  tyC := tyC
  sup := sup0
end
end DL
set_option Elab.async false
set_option linter.all false
set_option maxRecDepth 100000
set_option maxHeartbeats 1000000
/-! DSat: trees run by rules: what is wanted of a result. -/
namespace DL
open PySem L2
def Sat {α : Type} (r : R α) (P : α → SS → Prop) : Prop := match r with
  | .ok x S => P x S
  | _ => False
def SatO (o : Option (D × SS)) (P : D → SS → Prop) : Prop := match o with
  | some p => P p.1 p.2
  | none => False
def RSat (r : RS) (Pn : Sl → SS → Prop) (Pr : D → SS → Prop) : Prop := match r with
  | .nx δ S => Pn δ S
  | .rt d S => Pr d S
  | _ => False
section
variable {α β : Type} {δ : Sl} {S : SS} {P : D → SS → Prop} {Pn : Sl → SS → Prop} {Pr : D → SS → Prop}
@[simp] theorem sat_ok {x : α} {P : α → SS → Prop} : Sat (.ok x S) P = P x S := (rfl)
@[simp] theorem sat_bad {P : α → SS → Prop} : Sat (.bad : R α) P = False := (rfl)
@[simp] theorem sat_exc {C : Addr} {fs : List (Str × D)} {P : α → SS → Prop} : Sat (.exc C fs S : R α) P = False := (rfl)
@[simp] theorem sat_bind {r : R α} {k : α → SS → R β} {P : β → SS → Prop} : Sat (r.bind k) P = Sat r fun x S => Sat (k x S) P := by cases r <;> rfl
@[simp] theorem sato_some {p : D × SS} : SatO (some p) P = P p.1 p.2 := (rfl)
@[simp] theorem sato_none : SatO none P = False := (rfl)
@[simp] theorem sat_ofO {o : Option (D × SS)} : Sat (R.ofO o) P = SatO o P := by cases o <;> rfl
@[simp] theorem sat_ofT {o : Option Bool} {P : Bool → SS → Prop} : Sat (DL.ofT o S) P = (match o with | some b => P b S | none => False) := by cases o <;> rfl
@[simp] theorem rsat_nx : RSat (.nx δ S) Pn Pr = Pn δ S := (rfl)
@[simp] theorem rsat_rt {d : D} : RSat (.rt d S) Pn Pr = Pr d S := (rfl)
@[simp] theorem rsat_bad : RSat .bad Pn Pr = False := (rfl)
@[simp] theorem rsat_exc {C : Addr} {fs : List (Str × D)} : RSat (.exc δ C fs S) Pn Pr = False := (rfl)
@[simp] theorem rsat_to {r : R α} {k : α → SS → RS} : RSat (r.to δ k) Pn Pr = Sat r fun x S => RSat (k x S) Pn Pr := by cases r <;> rfl
@[simp] theorem rsat_seq {r : RS} {g : PSt} : RSat (r.seq g) Pn Pr = RSat r (fun δ S => RSat (g δ S) Pn Pr) Pr := by cases r <;> rfl
theorem Sat.mono {r : R α} {P P' : α → SS → Prop} (h : Sat r P) (i : ∀ x S, P x S → P' x S) : Sat r P' := by
  cases r with
  | ok x S => exact i _ _ h
  | _ => exact h.elim
theorem RSat.mono {r : RS} {Pn' : Sl → SS → Prop} {Pr' : D → SS → Prop} (h : RSat r Pn Pr) (i : ∀ x S, Pn x S → Pn' x S) (j : ∀ x S, Pr x S → Pr' x S) : RSat r Pn' Pr' := by
  cases r with
  | nx x S => exact i _ _ h
  | rt x S => exact j _ _ h
  | _ => exact h.elim
theorem sat_ex {r : R α} {P : α → SS → Prop} (h : Sat r P) : ∃ x S, r = .ok x S ∧ P x S := by
  cases r with
  | ok x S => exact ⟨x, S, rfl, h⟩
  | _ => exact h.elim
/-- a def -/
theorem sat_fn {b : PSt} {n : Nat} {ds : List D} (h : RSat (b (startD n ds) S) (fun _ S' => P .non S') P) : Sat (fnB b n ds S) P := by
  unfold fnB
  cases hb : b (startD n ds) S with
  | nx x S => rw [hb] at h; exact h
  | rt x S => rw [hb] at h; exact h
  | _ => rw [hb] at h; exact h.elim

/-! ### statements -/
@[simp] theorem s_seq {a b : PSt} : RSat (sSeq a b δ S) Pn Pr = RSat (a δ S) (fun δ S => RSat (b δ S) Pn Pr) Pr := by unfold sSeq; rw [rsat_seq]
@[simp] theorem s_nil : RSat (sNil δ S) Pn Pr = Pn δ S := (rfl)
@[simp] theorem s_drop {f : PEx} : RSat (sDrop f δ S) Pn Pr = Sat (f δ S) fun _ S1 => Pn δ S1 := by unfold sDrop; rw [rsat_to]; rfl
@[simp] theorem s_ret {f : PEx} : RSat (sRet f δ S) Pn Pr = Sat (f δ S) Pr := by unfold sRet; rw [rsat_to]; rfl
@[simp] theorem s_retN : RSat (sRetN δ S) Pn Pr = Pr .non S := (rfl)
@[simp] theorem s_if {t : PTs'} {a b : PSt} : RSat (sIf t a b δ S) Pn Pr = Sat (t δ S) fun c S1 => if c = true then RSat (a δ S1) Pn Pr else RSat (b δ S1) Pn Pr := by
  unfold sIf
  rw [rsat_to]
  congr 1
  funext c S1
  cases c <;> rfl
@[simp] theorem s_asg1 {f : PEx} {i : Nat} : RSat (sAsg f (.one i) δ S) Pn Pr = Sat (f δ S) fun x S1 => Pn (δ.set i (some x)) S1 := by unfold sAsg; rw [rsat_to]; rfl
theorem s_asgN {f : PEx} {is : List Nat} : RSat (sAsg f (.many is) δ S) Pn Pr = Sat (f δ S) fun x S1 => (match bindC (.many is) x δ with
  | some δ' => Pn δ' S1
  | none => False) := by
  unfold sAsg
  rw [rsat_to]
  congr 1
  funext x S1
  cases bindC (.many is) x δ <;> rfl
@[simp] theorem s_par {fa fb : PEx} {i j : Nat} : RSat (sPar i j fa fb δ S) Pn Pr = Sat (fa δ S) fun x S1 => Sat (fb δ S1) fun y S2 => Pn ((δ.set i (some x)).set j (some y)) S2 := by unfold sPar; rw [rsat_to]; congr 1; funext x S1; rw [rsat_to]; rfl
@[simp] theorem s_set {f o i : PEx} : RSat (sSet f o i δ S) Pn Pr = Sat (f δ S) fun x S1 => Sat (o δ S1) fun y S2 => Sat (i δ S2) fun z S3 => (match setD y z x S3 with
  | some S4 => Pn δ S4
  | none => False) := by
  unfold sSet
  rw [rsat_to]; congr 1; funext x S1
  rw [rsat_to]; congr 1; funext y S2
  rw [rsat_to]; congr 1; funext z S3
  cases setD y z x S3 <;> rfl
/-- a try whose body raises nothing -/
theorem s_try {O : Orc} {b : PSt} {cl : List Cl} (h : RSat (b δ S) Pn Pr) : RSat (sTry O b cl δ S) Pn Pr := by
  unfold sTry
  cases hb : b δ S with
  | exc _ _ _ _ => rw [hb] at h; exact h.elim
  | _ => rw [hb] at h; exact h
theorem s_tryX {O : Orc} {b : PSt} {cl : List Cl} {δ' : Sl} {C : Addr} {fs : List (Str × D)} {S' : SS} (hb : b δ S = .exc δ' C fs S') (h : RSat (catchL O cl C fs δ' S') Pn Pr) : RSat (sTry O b cl δ S) Pn Pr := by
  unfold sTry
  rw [hb]
  exact h

/-! ### expressions -/
@[simp] theorem e_var {i : Nat} : Sat (eVar i δ S) P = (match δ[i]? with | some (some d) => P d S | _ => False) := by
  unfold eVar
  cases δ[i]? with
  | none => rfl
  | some o => cases o <;> rfl
@[simp] theorem e_c {d : D} : Sat (eC d δ S) P = P d S := (rfl)
@[simp] theorem e_op1 {g : G1} {a : PEx} : Sat (eOp1 g a δ S) P = Sat (a δ S) fun x S1 => SatO (g x S1) P := by unfold eOp1; rw [sat_bind]; simp only [sat_ofO]
@[simp] theorem e_op2 {g : G2} {a b : PEx} : Sat (eOp2 g a b δ S) P = Sat (a δ S) fun x S1 => Sat (b δ S1) fun y S2 => SatO (g x y S2) P := by unfold eOp2; simp only [sat_bind, sat_ofO]
@[simp] theorem e_if {t : PTs'} {a b : PEx} : Sat (eIf t a b δ S) P = Sat (t δ S) fun c S1 => if c = true then Sat (a δ S1) P else Sat (b δ S1) P := by
  unfold eIf
  rw [sat_bind]
  congr 1
  funext c S1
  cases c <;> rfl
@[simp] theorem a_nil {P : List D → SS → Prop} : Sat (aNil δ S) P = P [] S := (rfl)
@[simp] theorem a_cons {a : PEx} {r : PAs} {P : List D → SS → Prop} : Sat (aCons a r δ S) P = Sat (a δ S) fun x S1 => Sat (r δ S1) fun xs S2 => P (x :: xs) S2 := by unfold aCons; simp only [sat_bind, sat_ok]
theorem e_tup {a : PAs} : Sat (eTup a δ S) P = Sat (a δ S) fun xs S1 => xs.length ≤ sizeLine ∧ P (.tup xs) S1 := by
  unfold eTup
  rw [sat_bind]
  congr 1
  funext xs S1
  split
  · rename_i h
    simp only [h, sat_ok, true_and]
  · rename_i h
    exact propext ⟨fun z => z.elim, fun z => h z.1⟩
theorem e_lst {a : PAs} : Sat (eLst a δ S) P = Sat (a δ S) fun xs S1 => xs.length ≤ sizeLine ∧ P (.ref S1.length) (S1 ++ [.lst xs]) := by
  unfold eLst
  rw [sat_bind]
  congr 1
  funext xs S1
  split
  · rename_i h
    simp only [h, sat_ok, true_and]
  · rename_i h
    exact propext ⟨fun z => z.elim, fun z => h z.1⟩
@[simp] theorem e_cb {g : GL} {a : PAs} : Sat (eCB g a δ S) P = Sat (a δ S) fun xs S1 => SatO (g xs S1) P := by unfold eCB; simp only [sat_bind, sat_ofO]
theorem e_call {f : Fn} {n : Nat} {a : PAs} : Sat (eCall f n a δ S) P = Sat (a δ S) fun xs S1 => xs.length = n ∧ Sat (f xs S1) P := by
  unfold eCall
  rw [sat_bind]
  congr 1
  funext xs S1
  split
  · rename_i h
    simp only [h, true_and]
  · rename_i h
    exact propext ⟨fun z => z.elim, fun z => h z.1⟩
@[simp] theorem e_and {a b : PEx} : Sat (eAnd a b δ S) P = Sat (a δ S) fun x S1 => (match truD x S1 with | some c => if c = true then Sat (b δ S1) P else P x S1 | none => False) := by
  unfold eAnd
  simp only [sat_bind, sat_ofT]
  congr 1
  funext x S1
  cases truD x S1 with
  | none => rfl
  | some c => cases c <;> rfl
@[simp] theorem e_or {a b : PEx} : Sat (eOr a b δ S) P = Sat (a δ S) fun x S1 => (match truD x S1 with | some c => if c = true then P x S1 else Sat (b δ S1) P | none => False) := by
  unfold eOr
  simp only [sat_bind, sat_ofT]
  congr 1
  funext x S1
  cases truD x S1 with
  | none => rfl
  | some c => cases c <;> rfl
@[simp] theorem e_chain {g g' : G2} {a b c : PEx} : Sat (eChain g g' a b c δ S) P = Sat (a δ S) fun x S1 => Sat (b δ S1) fun y S2 => SatO (g x y S2) fun z S3 => (match boolOf z with
  | some k => if k = true then Sat (c δ S3) fun z' S5 => SatO (g' y z' S5) P else P (.bl false) S3
  | none => False) := by
  unfold eChain
  simp only [sat_bind, sat_ofT, sat_ofO]
  congr 1
  funext x S1
  congr 1
  funext y S2
  cases g x y S2 with
  | none => rfl
  | some p =>
    simp only [sato_some]
    cases boolOf p.1 with
    | none => rfl
    | some k =>
      cases k
      · rfl
      · simp only [if_true, sat_bind, sat_ofO]
@[simp] theorem t_tru {a : PEx} {P : Bool → SS → Prop} : Sat (tTru a δ S) P = Sat (a δ S) fun x S1 => (match truD x S1 with | some c => P c S1 | none => False) := by
  unfold tTru
  simp only [sat_bind, sat_ofT]
@[simp] theorem t_val {a : PEx} {P : Bool → SS → Prop} : Sat (tVal a δ S) P = Sat (a δ S) fun x S1 => (match boolOf x with | some c => P c S1 | none => False) := by
  unfold tVal
  simp only [sat_bind, sat_ofT]
@[simp] theorem t_not {t : PTs'} {P : Bool → SS → Prop} : Sat (tNot' t δ S) P = Sat (t δ S) fun c S1 => P (!c) S1 := by unfold tNot'; simp only [sat_bind, sat_ok]
@[simp] theorem t_and {t u : PTs'} {P : Bool → SS → Prop} : Sat (tAnd' t u δ S) P = Sat (t δ S) fun c S1 => if c = true then Sat (u δ S1) P else P false S1 := by
  unfold tAnd'
  rw [sat_bind]
  congr 1
  funext c S1
  cases c <;> rfl
@[simp] theorem t_or {t u : PTs'} {P : Bool → SS → Prop} : Sat (tOr' t u δ S) P = Sat (t δ S) fun c S1 => if c = true then P true S1 else Sat (u δ S1) P := by
  unfold tOr'
  rw [sat_bind]
  congr 1
  funext c S1
  cases c <;> rfl
@[simp] theorem t_if {t a b : PTs'} {P : Bool → SS → Prop} : Sat (tIf' t a b δ S) P = Sat (t δ S) fun c S1 => if c = true then Sat (a δ S1) P else Sat (b δ S1) P := by
  unfold tIf'
  rw [sat_bind]
  congr 1
  funext c S1
  cases c <;> rfl
@[simp] theorem t_yes {P : Bool → SS → Prop} : Sat (tYes' δ S) P = P true S := (rfl)
theorem e_mt {m : Mi} {o : PEx} {a : PAs} : Sat (eMt m o a δ S) P = Sat (o δ S) fun x S1 => isTy m.ty x S1 = true ∧ Sat (a δ S1) fun xs S2 => SatO (m.g x xs S2) P := by
  unfold eMt
  rw [sat_bind]
  congr 1
  funext x S1
  split
  · rename_i h
    simp only [h, sat_bind, sat_ofO, true_and]
  · rename_i h
    simp only [h, false_and, sat_bad, Bool.false_eq_true]
@[simp] theorem o_none {P : Option Int → SS → Prop} : Sat (oNone δ S) P = P none S := (rfl)
@[simp] theorem o_some {a : PEx} {P : Option Int → SS → Prop} : Sat (oSome a δ S) P = Sat (a δ S) fun x S1 => (match intOf x with | some i => P (some i) S1 | none => False) := by
  unfold oSome
  rw [sat_bind]
  congr 1
  funext x S1
  cases intOf x <;> rfl
@[simp] theorem e_sl {a : PEx} {lo hi : PO'} : Sat (eSl a lo hi δ S) P = Sat (a δ S) fun x S1 => Sat (lo δ S1) fun l S2 => Sat (hi δ S2) fun u S3 => SatO (slD l u x S3) P := by unfold eSl; simp only [sat_bind, sat_ofO]
@[simp] theorem it_val {a : PEx} {P : IT → SS → Prop} : Sat (iVal a δ S) P = Sat (a δ S) fun x S1 => (match iterD x S1 with | some it => P it S1 | none => False) := by
  unfold iVal
  rw [sat_bind]
  congr 1
  funext x S1
  cases iterD x S1 <;> rfl
@[simp] theorem it_on {g : List D → SS → Option IT} {a : PAs} {P : IT → SS → Prop} : Sat (iOn g a δ S) P = Sat (a δ S) fun xs S1 => (match g xs S1 with | some it => P it S1 | none => False) := by
  unfold iOn
  rw [sat_bind]
  congr 1
  funext x S1
  cases g x S1 <;> rfl
/-! ### loops -/
theorem forL_inv {gd : Gd} {ct : CT} {body : PSt} (I : Nat → Sl → SS → Prop) : ∀ (l : List D) (i : Nat) (δ : Sl) (S : SS), I i δ S →
    (∀ j d δ S, l[j]? = some d → I (i + j) δ S → gOk gd S ∧ ∃ δ1, bindC ct d δ = some δ1 ∧ RSat (body δ1 S) (I (i + j + 1)) Pr) → (∀ δ S, I (i + l.length) δ S → gOk gd S ∧ Pn δ S) → RSat (forL gd ct body l δ S) Pn Pr
  | [], i, δ, S, h0, hs, he => by
    obtain ⟨h1, h2⟩ := he δ S h0
    unfold forL
    rw [if_pos h1]
    exact h2
  | d :: l, i, δ, S, h0, hs, he => by
    obtain ⟨h1, δ1, h2, h3⟩ := hs 0 d δ S rfl h0
    unfold forL
    rw [if_pos h1, h2]
    have step := forL_inv (gd := gd) (ct := ct) (body := body) I l (i + 1)
    have hs' : ∀ j d δ S, l[j]? = some d → I (i + 1 + j) δ S → gOk gd S ∧ ∃ δ1, bindC ct d δ = some δ1 ∧ RSat (body δ1 S) (I (i + 1 + j + 1)) Pr := fun j d δ S hj hI => by
      have e : i + 1 + j = i + (j + 1) := by omega
      rw [e] at hI ⊢
      exact hs (j + 1) d δ S hj hI
    have e2 : i + 1 + l.length = i + (d :: l).length := by rw [List.length_cons]; omega
    have he' : ∀ δ S, I (i + 1 + l.length) δ S → gOk gd S ∧ Pn δ S := fun δ S hI => he δ S (e2 ▸ hI)
    show RSat (match body δ1 S with
      | .nx δ' S' => forL gd ct body l δ' S'
      | .ct δ' S' => forL gd ct body l δ' S'
      | .bk δ' S' => .nx δ' S'
      | x => x) Pn Pr
    cases hb : body δ1 S with
    | nx δ' S' => rw [hb] at h3; exact step δ' S' h3 hs' he'
    | rt d S' => rw [hb] at h3; exact h3
    | _ => rw [hb] at h3; exact h3.elim
theorem s_for {it : PIt} {ct : CT} {body : PSt} (h : Sat (it δ S) fun x S1 => ∃ I : Nat → Sl → SS → Prop, I 0 δ S1 ∧ (∀ j d δ S, x.1[j]? = some d → I j δ S → gOk x.2 S ∧ ∃ δ1, bindC ct d δ = some δ1 ∧ RSat (body δ1 S) (I (j + 1)) Pr) ∧ (∀ δ S, I x.1.length δ S → gOk x.2 S ∧ Pn δ S)) :
    RSat (sFor it ct body δ S) Pn Pr := by
  unfold sFor
  rw [rsat_to]
  refine h.mono fun x S1 ⟨I, h0, hs, he⟩ => ?_
  exact forL_inv I x.1 0 δ S1 h0 (by simpa using hs) (by simpa using he)
theorem s_forE {it : PIt} {ct : CT} {body : PSt} : RSat (sFor it ct body δ S) Pn Pr = Sat (it δ S) fun x S1 => RSat (forL x.2 ct body x.1 δ S1) Pn Pr := by unfold sFor; rw [rsat_to]
@[simp] theorem forL_nil {gd : Gd} {ct : CT} {body : PSt} : RSat (forL gd ct body [] δ S) Pn Pr = (gOk gd S ∧ Pn δ S) := by
  unfold forL
  split <;> simp_all
theorem s_while {t : PTs'} {b : PSt} (I : Nat → Sl → SS → Prop) (hs : ∀ m δ S, I m δ S → Sat (t δ S) fun c S1 => if c = true then RSat (b δ S1) (fun δ' S' => ∃ m', m' < m ∧ I m' δ' S') Pr else Pn δ S1) :
    ∀ (m : Nat) (δ : Sl) (S : SS), I m δ S → RSat (sWhile t b δ S) Pn Pr := by
  intro m
  induction m using Nat.strongRecOn with
  | ind m ih =>
    intro δ S h
    rw [sWhile_eq, rsat_to]
    refine (hs m δ S h).mono fun c S1 hc => ?_
    cases c with
    | false => exact hc
    | true =>
      simp only [if_true] at hc ⊢
      cases hb : b δ S1 with
      | nx δ' S' =>
        rw [hb] at hc
        obtain ⟨m', hm, hI⟩ := hc
        exact ih m' hm δ' S' hI
      | rt d S' => rw [hb] at hc; exact hc
      | _ => rw [hb] at hc; exact hc.elim
/-- a new list: acc by the turn -/
theorem lc_inv {gd : Gd} {ct : CT} {t : PTs'} {el : PEx} {k : Nat} {P : Unit → SS → Prop} (I : Nat → List D → SS → Prop) (hk : ∀ i acc S, I i acc S → S[k]? = some (.lst acc)) : ∀ (l : List D) (i : Nat) (acc : List D) (S : SS), I i acc S →
    (∀ j d acc S, l[j]? = some d → I (i + j) acc S → gOk gd S ∧ ∃ δ1, bindC ct d δ = some δ1 ∧ Sat (t δ1 S) fun c S1 => if c = true then Sat (el δ1 S1) fun y S2 => ∃ acc2, S2[k]? = some (.lst acc2) ∧ acc2.length < sizeLine ∧ I (i + j + 1) (acc2 ++ [y]) (S2.set k (.lst (acc2 ++ [y]))) else I (i + j + 1) acc S1) →
    (∀ acc S, I (i + l.length) acc S → gOk gd S ∧ P () S) → Sat (lcGo gd ct t el δ k l S) P
  | [], i, acc, S, h0, hs, he => by
    obtain ⟨h1, h2⟩ := he acc S h0
    unfold lcGo
    rw [if_pos h1]
    exact h2
  | d :: l, i, acc, S, h0, hs, he => by
    obtain ⟨h1, δ1, h2, h3⟩ := hs 0 d acc S rfl h0
    have step := lc_inv (gd := gd) (ct := ct) (t := t) (el := el) (P := P) I hk l (i + 1)
    have hs' : ∀ j d acc S, l[j]? = some d → I (i + 1 + j) acc S → gOk gd S ∧ ∃ δ1, bindC ct d δ = some δ1 ∧ Sat (t δ1 S) fun c S1 => if c = true then Sat (el δ1 S1) fun y S2 => ∃ acc2, S2[k]? = some (.lst acc2) ∧ acc2.length < sizeLine ∧ I (i + 1 + j + 1) (acc2 ++ [y]) (S2.set k (.lst (acc2 ++ [y]))) else I (i + 1 + j + 1) acc S1 := fun j d acc S hj hI => by
      have e : i + 1 + j = i + (j + 1) := by omega
      rw [e] at hI ⊢
      exact hs (j + 1) d acc S hj hI
    have e2 : i + 1 + l.length = i + (d :: l).length := by rw [List.length_cons]; omega
    have he' : ∀ acc S, I (i + 1 + l.length) acc S → gOk gd S ∧ P () S := fun acc S hI => he acc S (e2 ▸ hI)
    unfold lcGo
    rw [if_pos h1, h2]
    obtain ⟨c, S1, e1, h4⟩ := sat_ex h3
    show Sat ((t δ1 S).nox.bind fun c S1 => if c = true then (el δ1 S1).nox.bind fun y S2 => (match S2[k]? with
        | some (.lst acc) => if acc.length < sizeLine then lcGo gd ct t el δ k l (S2.set k (.lst (acc ++ [y]))) else .bad
        | _ => .bad) else lcGo gd ct t el δ k l S1) P
    rw [e1]
    simp only [R.nox_ok, sat_bind, sat_ok]
    cases c with
    | false => exact step acc S1 h4 hs' he'
    | true =>
      simp only [if_true] at h4 ⊢
      obtain ⟨y, S2, e2, acc2, h5, h6, h7⟩ := sat_ex h4
      rw [e2]
      simp only [R.nox_ok, sat_bind, sat_ok]
      rw [h5]
      simp only [h6, if_true]
      exact step _ _ h7 hs' he'
theorem e_lc {it : PIt} {ct : CT} {vs : List Nat} {t : PTs'} {el : PEx} (h : Sat (it δ S) fun x S1 => ∃ I : Nat → List D → SS → Prop, (∀ i acc S, I i acc S → S[S1.length]? = some (.lst acc)) ∧ I 0 [] (S1 ++ [.lst []]) ∧
      (∀ j d acc S, x.1[j]? = some d → I j acc S → gOk x.2 S ∧ ∃ δ1, bindC ct d (wipeD δ vs) = some δ1 ∧ Sat (t δ1 S) fun c S1' => if c = true then Sat (el δ1 S1') fun y S2 => ∃ acc2, S2[S1.length]? = some (.lst acc2) ∧ acc2.length < sizeLine ∧ I (j + 1) (acc2 ++ [y]) (S2.set S1.length (.lst (acc2 ++ [y]))) else I (j + 1) acc S1') ∧
      (∀ acc S, I x.1.length acc S → gOk x.2 S ∧ P (.ref S1.length) S)) : Sat (eLc it ct vs t el δ S) P := by
  unfold eLc
  rw [sat_bind]
  refine h.mono fun x S1 ⟨I, hk, h0, hs, he⟩ => ?_
  rw [sat_bind]
  exact lc_inv (P := fun _ S2 => Sat (.ok (.ref S1.length) S2) P) I hk x.1 0 [] _ h0 (by simpa using hs) (by simpa using he)
end
end DL
set_option Elab.async false
set_option linter.all false
set_option maxRecDepth 100000
set_option maxHeartbeats 1000000
/-! DRules: what the operators want of numbers, tuples, lists. -/
namespace DL
open PySem L2
section
variable {S : SS} {P : D → SS → Prop} {i j : Int}
@[simp] theorem so_add : SatO (binD .Add (.int i) (.int j) S) P = P (.int (i + j)) S := (rfl)
@[simp] theorem so_sub : SatO (binD .Sub (.int i) (.int j) S) P = P (.int (i - j)) S := (rfl)
@[simp] theorem so_mul : SatO (binD .Mult (.int i) (.int j) S) P = (MulOk i j ∧ P (.int (i * j)) S) := by
  show SatO (if MulOk i j then some (D.int (i * j), S) else none) P = _
  split
  · rename_i h; simp [h]
  · rename_i h; simp [h]
@[simp] theorem so_fdiv : SatO (binD .FloorDiv (.int i) (.int j) S) P = (DivOk j ∧ P (.int (i.fdiv j)) S) := by
  show SatO (if DivOk j then some (D.int (i.fdiv j), S) else none) P = _
  split
  · rename_i h; simp [h]
  · rename_i h; simp [h]
@[simp] theorem so_mod : SatO (binD .Mod (.int i) (.int j) S) P = (j ≠ 0 ∧ P (.int (i.fmod j)) S) := by
  show SatO (if j ≠ 0 then some (D.int (i.fmod j), S) else none) P = _
  split
  · rename_i h; simp [h]
  · rename_i h; simp at h; simp [h]
@[simp] theorem so_pow : SatO (binD .Pow (.int i) (.int j) S) P = ((0 ≤ j ∧ j ≤ 1000000 ∧ i.natAbs < 2 ^ 64) ∧ P (.int (i ^ j.toNat)) S) := by
  show SatO (if 0 ≤ j ∧ j ≤ 1000000 ∧ i.natAbs < 2 ^ 64 then some (D.int (i ^ j.toNat), S) else none) P = _
  split
  · rename_i h; simp only [sato_some, h, true_and, and_self]
  · rename_i h; simp only [sato_none, h, false_and]
@[simp] theorem so_lt : SatO (cmpD .Lt (.int i) (.int j) S) P = P (.bl (decide (i < j))) S := (rfl)
@[simp] theorem so_le : SatO (cmpD .LtE (.int i) (.int j) S) P = P (.bl (decide (i ≤ j))) S := (rfl)
@[simp] theorem so_gt : SatO (cmpD .Gt (.int i) (.int j) S) P = P (.bl (decide (j < i))) S := (rfl)
@[simp] theorem so_ge : SatO (cmpD .GtE (.int i) (.int j) S) P = P (.bl (decide (j ≤ i))) S := (rfl)
@[simp] theorem so_neg : SatO (negD (.int i) S) P = P (.int (-i)) S := (rfl)
@[simp] theorem so_notb {b : Bool} : SatO (notD (.bl b) S) P = P (.bl (!b)) S := (rfl)
@[simp] theorem so_abs : SatO (one absD [.int i] S) P = P (.int (if i < 0 then -i else i)) S := (rfl)
@[simp] theorem so_int : SatO (one intD [.int i] S) P = P (.int i) S := (rfl)
@[simp] theorem so_lenT {ds : List D} : SatO (one lenD [.tup ds] S) P = P (.int ds.length) S := (rfl)
theorem so_lenL {k : Nat} {ds : List D} (h : S[k]? = some (.lst ds)) : SatO (one lenD [.ref k] S) P = P (.int ds.length) S := by
  unfold one lenD seqD
  simp only [h, sato_some]
theorem so_tupL {k : Nat} {ds : List D} (h : S[k]? = some (.lst ds)) : SatO (one tupleD [.ref k] S) P = P (.tup ds) S := by
  unfold one tupleD seqD
  simp only [h, sato_some]
@[simp] theorem tru_int : truD (.int i) S = some (i != 0) := (rfl)
@[simp] theorem tru_bl {b : Bool} : truD (.bl b) S = some b := (rfl)
@[simp] theorem tru_tup {ds : List D} : truD (.tup ds) S = some (!ds.isEmpty) := (rfl)
@[simp] theorem tru_non : truD .non S = some false := (rfl)
theorem tru_lst {k : Nat} {ds : List D} (h : S[k]? = some (.lst ds)) : truD (.ref k) S = some (!ds.isEmpty) := by unfold truD; simp only [h]
@[simp] theorem boolOf_bl {b : Bool} : boolOf (.bl b) = some b := (rfl)
theorem atI_nat {α : Type} {xs : List α} {k : Nat} : atI xs (k : Int) = xs[k]? := by
  unfold atI ixN
  by_cases h : k < xs.length
  · simp [h]
  · simp [h]
theorem so_ixL {k : Nat} {ds : List D} (h : S[k]? = some (.lst ds)) {n : Nat} {d : D} (hn : ds[n]? = some d) (hi : i = (n : Int)) : SatO (ixD (.ref k) (.int i) S) P = P d S := by
  unfold ixD seqD
  subst hi
  simp only [h, atI_nat, hn]
  rfl
theorem so_ixT {ds : List D} {n : Nat} {d : D} (hn : ds[n]? = some d) (hi : i = (n : Int)) : SatO (ixD (.tup ds) (.int i) S) P = P d S := by
  unfold ixD seqD
  subst hi
  simp only [atI_nat, hn]
  rfl
@[simp] theorem so_ix0 {d : D} {ds : List D} : SatO (ixD (.tup (d :: ds)) (.int 0) S) P = P d S := so_ixT (n := 0) rfl rfl
@[simp] theorem so_ix1 {d e : D} {ds : List D} : SatO (ixD (.tup (d :: e :: ds)) (.int 1) S) P = P e S := so_ixT (n := 1) rfl rfl
@[simp] theorem so_ix2 {d e f : D} {ds : List D} : SatO (ixD (.tup (d :: e :: f :: ds)) (.int 2) S) P = P f S := so_ixT (n := 2) rfl rfl
theorem set_lst {k : Nat} {ds : List D} {n : Nat} {v : D} (h : S[k]? = some (.lst ds)) (hn : n < ds.length) : setD (.ref k) (.int (n : Int)) v S = some (S.set k (.lst (ds.set n v))) := by
  unfold setD
  simp only [h]
  have : ixN ds.length (n : Int) = some n := by
    unfold ixN
    simp [hn]
  rw [this]
  rfl
/-! isinstance -/
theorem so_isi {d : D} {T U : String} {b : Bool} (h : tyD d S = some U) (k : kitB U T = some b) : SatO (isiD [d, .ty T] S) P = P (.bl b) S := by
  unfold isiD
  simp only [h, k, sato_some]
@[simp] theorem isi_int_int : SatO (isiD [.int i, .ty "int"] S) P = P (.bl true) S := so_isi rfl kb_int_int
@[simp] theorem isi_int_bool : SatO (isiD [.int i, .ty "bool"] S) P = P (.bl false) S := so_isi rfl kb_int_bool
@[simp] theorem isi_int_tup : SatO (isiD [.int i, .ty "tuple"] S) P = P (.bl false) S := so_isi rfl kb_int_tup
@[simp] theorem isi_int_str : SatO (isiD [.int i, .ty "str"] S) P = P (.bl false) S := so_isi rfl kb_int_str
@[simp] theorem isi_bl_int {b : Bool} : SatO (isiD [.bl b, .ty "int"] S) P = P (.bl true) S := so_isi rfl kb_bool_int
@[simp] theorem isi_bl_bool {b : Bool} : SatO (isiD [.bl b, .ty "bool"] S) P = P (.bl true) S := so_isi rfl kb_bool_bool
@[simp] theorem isi_bl_tup {b : Bool} : SatO (isiD [.bl b, .ty "tuple"] S) P = P (.bl false) S := so_isi rfl kb_bool_tup
@[simp] theorem isi_bl_str {b : Bool} : SatO (isiD [.bl b, .ty "str"] S) P = P (.bl false) S := so_isi rfl kb_bool_str
@[simp] theorem isi_str_int {x : Str} : SatO (isiD [.str x, .ty "int"] S) P = P (.bl false) S := so_isi rfl kb_str_int
@[simp] theorem isi_str_bool {x : Str} : SatO (isiD [.str x, .ty "bool"] S) P = P (.bl false) S := so_isi rfl kb_str_bool
@[simp] theorem isi_str_tup {x : Str} : SatO (isiD [.str x, .ty "tuple"] S) P = P (.bl false) S := so_isi rfl kb_str_tup
@[simp] theorem isi_str_str {x : Str} : SatO (isiD [.str x, .ty "str"] S) P = P (.bl true) S := so_isi rfl kb_str_str
@[simp] theorem isi_non_int : SatO (isiD [.non, .ty "int"] S) P = P (.bl false) S := so_isi rfl kb_non_int
@[simp] theorem isi_non_bool : SatO (isiD [.non, .ty "bool"] S) P = P (.bl false) S := so_isi rfl kb_non_bool
@[simp] theorem isi_non_tup : SatO (isiD [.non, .ty "tuple"] S) P = P (.bl false) S := so_isi rfl kb_non_tup
@[simp] theorem isi_non_str : SatO (isiD [.non, .ty "str"] S) P = P (.bl false) S := so_isi rfl kb_non_str
@[simp] theorem isi_tup_int {ds : List D} : SatO (isiD [.tup ds, .ty "int"] S) P = P (.bl false) S := so_isi rfl kb_tup_int
@[simp] theorem isi_tup_bool {ds : List D} : SatO (isiD [.tup ds, .ty "bool"] S) P = P (.bl false) S := so_isi rfl kb_tup_bool
@[simp] theorem isi_tup_tup {ds : List D} : SatO (isiD [.tup ds, .ty "tuple"] S) P = P (.bl true) S := so_isi rfl kb_tup_tup
@[simp] theorem isi_tup_str {ds : List D} : SatO (isiD [.tup ds, .ty "str"] S) P = P (.bl false) S := so_isi rfl kb_tup_str
/-! sizes -/
theorem log2_le {n a : Nat} (h : n < 2 ^ a) : n.log2 ≤ a := by
  by_cases h0 : n = 0
  · subst h0; simp
  · exact Nat.le_of_lt ((Nat.log2_lt h0).mpr h)
theorem mulOk {a b : Nat} (hi : i.natAbs < 2 ^ a) (hj : j.natAbs < 2 ^ b) (h : a + b < 1000000) : MulOk i j := by
  unfold MulOk
  have := log2_le hi
  have := log2_le hj
  omega
theorem mulOk64 (hi : i.natAbs < 2 ^ 64) (hj : j.natAbs < 2 ^ 64) : MulOk i j := mulOk hi hj (by decide)
theorem divOk {a : Nat} (h0 : j ≠ 0) (hj : j.natAbs < 2 ^ a) (h : a < 9000) : DivOk j := ⟨h0, Nat.lt_of_le_of_lt (log2_le hj) h⟩
theorem divOk64 (h0 : j ≠ 0) (hj : j.natAbs < 2 ^ 64) : DivOk j := divOk h0 hj (by decide)
theorem le_size {n : Nat} (h : n ≤ 16777216) : n ≤ sizeLine := by rw [sizeLine_eq]; exact h
theorem lt_size {n : Nat} (h : n < 16777216) : n < sizeLine := by rw [sizeLine_eq]; exact h
end
end DL
set_option Elab.async false
set_option linter.all false
set_option maxRecDepth 100000
set_option maxHeartbeats 2000000
/-! DDraw: the numbers that a law draws. -/
namespace DL
open PySem L2
noncomputable def bMore : PSt := (sSeq (sAsg (eOp2 (binD .Mod) (eCB (one intD) (aCons (eOp2 (binD .Add) (eOp2 (binD .Add) (eOp2 (binD .Mult) (eVar 1) (eC (.int 48271))) (eCB (one lenD) (aCons (eVar 0) aNil))) (eC (.int 11))) aNil)) (eC (.int 2147483629))) (.one 2)) (sSeq (sFor (iOn rng1D (aCons (eC (.int 3)) aNil)) (.one 3) (sSeq (sIf (tTru (eVar 0)) (sSeq (sAsg (eOp2 (binD .Add) (eVar 2) (eOp2 ixD (eVar 0) (eOp2 (binD .Mod) (eCB (one intD) (aCons (eOp2 (binD .Add) (eOp2 (binD .Mult) (eVar 1) (eOp2 (binD .Add) (eVar 3) (eC (.int 5)))) (eVar 3)) aNil)) (eCB (one lenD) (aCons (eVar 0) aNil))))) (.one 2)) sNil) sNil) (sSeq (sAsg (eOp2 (binD .Mod) (eCB (one intD) (aCons (eOp2 (binD .Add) (eOp2 (binD .Add) (eOp2 (binD .Mult) (eVar 2) (eC (.int 16807))) (eOp2 (binD .Mult) (eC (.int 69621)) (eVar 3))) (eC (.int 5))) aNil)) (eC (.int 2147483629))) (.one 2)) sNil))) (sSeq (sRet (eOp2 (binD .FloorDiv) (eVar 2) (eC (.int 1009)))) sNil)))
noncomputable def bTake (m : Fn) : PSt := (sSeq (sAsg (eOp2 ixD (eVar 1) (eC (.int 0))) (.one 3)) (sSeq (sSet (eOp2 (binD .Add) (eVar 3) (eC (.int 1))) (eVar 1) (eC (.int 0))) (sSeq (sRet (eOp2 (binD .Mod) (eCB (one intD) (aCons (eIf (tVal (eOp2 (cmpD .Lt) (eVar 3) (eCB (one lenD) (aCons (eVar 0) aNil)))) (eOp2 ixD (eVar 0) (eVar 3)) (eCall m 2 (aCons (eVar 0) (aCons (eVar 3) aNil)))) aNil)) (eVar 2))) sNil)))
noncomputable def bOne (t : Fn) : PSt := (sSeq (sRet (eOp2 ixD (eVar 0) (eCall t 3 (aCons (eVar 1) (aCons (eVar 2) (aCons (eCB (one lenD) (aCons (eVar 0) aNil)) aNil)))))) sNil)

/-- the draws stand at kd, the place at ka: not beyond n -/
structure DA (S : SS) (kd ka n : Nat) : Prop where
  ne : kd ≠ ka
  ex : ∃ (ds : List Int) (p : Nat), S[kd]? = some (.lst (ds.map .int)) ∧ S[ka]? = some (.lst [.int p]) ∧ p ≤ n ∧ (∀ x ∈ ds, 0 ≤ x ∧ x < 2147483647) ∧ ds.length ≤ 4000
/-- the store has grown; what stood stands, but the place -/
structure Up (ka : Nat) (S S' : SS) : Prop where
  len : S.length ≤ S'.length
  get : ∀ k o, k ≠ ka → S[k]? = some o → S'[k]? = some o
theorem Up.refl {ka : Nat} {S : SS} : Up ka S S := ⟨Nat.le_refl _, fun _ _ _ h => h⟩
theorem Up.trans {ka : Nat} {S S' S'' : SS} (a : Up ka S S') (b : Up ka S' S'') : Up ka S S'' := ⟨Nat.le_trans a.len b.len, fun k o h e => b.get k o h (a.get k o h e)⟩
theorem Up.app {ka : Nat} {S : SS} {l : List MO} : Up ka S (S ++ l) := ⟨by simp, fun k o _ e => by
  rw [List.getElem?_append_left]
  · exact e
  · exact (List.getElem?_eq_some_iff.mp e).1⟩
theorem get_app {S : SS} {l : List MO} {k : Nat} {o : MO} (e : S[k]? = some o) : (S ++ l)[k]? = some o := by
  rw [List.getElem?_append_left]
  · exact e
  · exact (List.getElem?_eq_some_iff.mp e).1
theorem get_len {S : SS} {k : Nat} {o : MO} (e : S[k]? = some o) : k < S.length := (List.getElem?_eq_some_iff.mp e).1
theorem get_last {S : SS} {o : MO} : (S ++ [o])[S.length]? = some o := by simp
theorem DA.app {S : SS} {kd ka n : Nat} {l : List MO} (h : DA S kd ka n) : DA (S ++ l) kd ka n := by
  obtain ⟨ne, ds, p, h1, h2, h3⟩ := h
  exact ⟨ne, ds, p, get_app h1, get_app h2, h3⟩
theorem DA.up {S : SS} {kd ka n m : Nat} (h : DA S kd ka n) (hm : n ≤ m) : DA S kd ka m := by
  obtain ⟨ne, ds, p, h1, h2, h3, h4⟩ := h
  exact ⟨ne, ds, p, h1, h2, Nat.le_trans h3 hm, h4⟩
theorem fmod_pos {i j : Int} (h : 0 < j) : i.fmod j = i % j := Int.fmod_eq_emod_of_nonneg i (Int.le_of_lt h)
theorem fdiv_pos {i j : Int} (h : 0 < j) : i.fdiv j = i / j := Int.fdiv_eq_ediv_of_nonneg i (Int.le_of_lt h)
theorem rng3 (S : SS) : rng1D [.int 3] S = some ([.int 0, .int 1, .int 2], []) := by
  show (if small 3 then some (rngItems 0 (3 : Int).toNat 1, []) else none) = _
  rw [if_pos (by decide)]
  rfl
section
variable {S : SS} {P : D → SS → Prop}
theorem more_sat {kd : Nat} {ds : List Int} {p : Nat} (h : S[kd]? = some (.lst (ds.map .int))) (hb : ∀ x ∈ ds, 0 ≤ x ∧ x < 2147483647) (hl : ds.length ≤ 4000) (hp : p ≤ 1000000000000) (k : ∀ r : Int, 0 ≤ r → P (.int r) S) :
    Sat (fnB bMore 4 [.ref kd, .int p] S) P := by
  refine sat_fn ?_
  unfold bMore
  simp [startD, so_lenL h, it_on, rng3]
  refine ⟨mulOk64 (by omega) (by omega), ?_⟩
  refine s_for ?_
  simp [it_on, rng3]
  refine ⟨fun _ δ S' => S' = S ∧ ∃ (m : Int) (o : Option D), δ = [some (.ref kd), some (.int p), some (.int m), o] ∧ 0 ≤ m ∧ m < 2147483629, ⟨rfl, _, _, rfl, ?_, ?_⟩, ?_, ?_⟩
  · rw [fmod_pos (by omega)]; omega
  · rw [fmod_pos (by omega)]; omega
  · rintro j d δ S' hj ⟨rfl, m, o, rfl, h0, h1⟩
    obtain ⟨q, rfl, hq⟩ : ∃ q : Nat, d = .int (q : Int) ∧ q ≤ 2 := by
      match j, hj with
      | 0, hj => exact ⟨0, by simpa using hj.symm, by omega⟩
      | 1, hj => exact ⟨1, by simpa using hj.symm, by omega⟩
      | 2, hj => exact ⟨2, by simpa using hj.symm, by omega⟩
      | n + 3, hj => simp at hj
    refine ⟨trivial, _, rfl, ?_⟩
    simp [tru_lst h, so_lenL h]
    have fin : ∀ m : Int, 0 ≤ m → m < 2147483629 + 2147483647 → MulOk m 16807 ∧ MulOk 69621 (q : Int) ∧ 0 ≤ (m * 16807 + 69621 * (q : Int) + 5).fmod 2147483629 ∧ (m * 16807 + 69621 * (q : Int) + 5).fmod 2147483629 < 2147483629 := fun m a b =>
      ⟨mulOk64 (by omega) (by omega), mulOk64 (by omega) (by omega), by rw [fmod_pos (by omega)]; omega, by rw [fmod_pos (by omega)]; omega⟩
    by_cases he : ds = []
    · simp only [he, if_true, not_true, if_false]
      obtain ⟨f1, f2, f3, f4⟩ := fin m h0 (by omega)
      first
        | exact ⟨f1, f2, f3, f4⟩
        | simp [f1, f2, f3, f4]
    · have hpos : 0 < ds.length := List.length_pos_iff.mpr he
      simp only [he, if_false, not_false_eq_true, if_true]
      have hne : (ds.length : Int) ≠ 0 := by omega
      refine ⟨mulOk64 (by omega) (by omega), trivial, ?_⟩
      have hlt := Int.emod_lt_of_pos ((p : Int) * ((q : Int) + 5) + q) (show (0 : Int) < ds.length by omega)
      have hge := Int.emod_nonneg ((p : Int) * ((q : Int) + 5) + q) hne
      rw [fmod_pos (by omega)]
      obtain ⟨n, hn⟩ := Int.eq_ofNat_of_zero_le hge
      rw [hn] at hlt ⊢
      have hn2 : n < ds.length := by omega
      have hx := hb ds[n] (List.getElem_mem hn2)
      rw [so_ixL h (n := n) (d := .int ds[n]) (by rw [List.getElem?_map, List.getElem?_eq_getElem hn2]; rfl) rfl]
      obtain ⟨f1, f2, f3, f4⟩ := fin (m + ds[n]) (by omega) (by omega)
      simp [f1, f2, f3, f4]
  · rintro δ S' ⟨rfl, m, o, rfl, h0, h1⟩
    refine ⟨trivial, ?_⟩
    simp
    refine ⟨divOk64 (by omega) (by omega), k _ ?_⟩
    rw [fdiv_pos (by omega)]
    omega
/-- the next number below many -/
theorem take_sat {m : Fn} {kd ka n : Nat} {many : Int} (hm : ∀ (S : SS) (ds : List Int) (p : Nat) (P : D → SS → Prop), S[kd]? = some (.lst (ds.map .int)) → (∀ x ∈ ds, 0 ≤ x ∧ x < 2147483647) → ds.length ≤ 4000 → p ≤ 1000000000000 → (∀ r : Int, 0 ≤ r → P (.int r) S) → Sat (m [.ref kd, .int p] S) P)
    (h : DA S kd ka n) (hn : n ≤ 1000000000000) (h0 : 0 < many) (k : ∀ (r : Int) (S' : SS), 0 ≤ r → r < many → Up ka S S' → S'.length = S.length → DA S' kd ka (n + 1) → P (.int r) S') : Sat (fnB (bTake m) 4 [.ref kd, .ref ka, .int many] S) P := by
  obtain ⟨ne, ds, p, h1, h2, h3, h4, h5⟩ := h
  refine sat_fn ?_
  unfold bTake
  have hs : setD (.ref ka) (.int 0) (.int ((p : Int) + 1)) S = some (S.set ka (.lst [.int ((p : Int) + 1)])) := set_lst (n := 0) h2 (by simp)
  have ix0 : ∀ P, SatO (ixD (.ref ka) (.int 0) S) P = P (.int (p : Int)) S := fun P => so_ixL h2 (n := 0) rfl rfl
  simp only [s_seq, s_asg1, e_op2, startD, e_var, e_c, List.map_cons, List.map_nil, List.length_cons, List.length_nil, List.cons_append, List.nil_append, List.getElem?_cons_succ, List.getElem?_cons_zero, ix0]
  simp only [s_set, e_op2, e_var, e_c, so_add, List.set_cons_succ, List.set_cons_zero, List.replicate, Nat.add_sub_cancel_left, List.getElem?_cons_succ, List.getElem?_cons_zero, hs]
  have h1' : (S.set ka (.lst [.int ((p : Int) + 1)]))[kd]? = some (.lst (ds.map .int)) := by rw [List.getElem?_set_ne (Ne.symm ne)]; exact h1
  have h2' : (S.set ka (.lst [.int ((p : Int) + 1)]))[ka]? = some (.lst [.int ((p + 1 : Nat) : Int)]) := by
    rw [List.getElem?_set_self (get_len h2)]
    rfl
  have up : Up ka S (S.set ka (.lst [.int ((p : Int) + 1)])) := ⟨by simp, fun j o hj e => by rw [List.getElem?_set_ne (Ne.symm hj)]; exact e⟩
  have da : DA (S.set ka (.lst [.int ((p : Int) + 1)])) kd ka (n + 1) := ⟨ne, ds, p + 1, h1', h2', by omega, h4, h5⟩
  simp only [s_ret, e_op2, e_cb, a_cons, a_nil, e_if, t_val, e_var, s_nil, List.getElem?_cons_succ, List.getElem?_cons_zero, so_lenL h1', so_lt, boolOf_bl, List.length_map]
  have fin : ∀ r : Int, 0 ≤ r → SatO (one intD [.int r] (S.set ka (.lst [.int ((p : Int) + 1)]))) fun x S1 => SatO (binD .Mod x (.int many) S1) P := fun r hr => by
    simp only [so_int, so_mod]
    exact ⟨by omega, k _ _ (by rw [fmod_pos h0]; exact Int.emod_nonneg _ (by omega)) (by rw [fmod_pos h0]; exact Int.emod_lt_of_pos _ h0) up (by simp) da⟩
  by_cases hp : p < ds.length
  · have hx := h4 ds[p] (List.getElem_mem hp)
    rw [if_pos (by simp; omega)]
    rw [so_ixL h1' (n := p) (d := .int ds[p]) (by rw [List.getElem?_map, List.getElem?_eq_getElem hp]; rfl) rfl]
    exact fin _ hx.1
  · rw [if_neg (by simp; omega)]
    simp only [e_call, a_cons, a_nil, e_var, List.getElem?_cons_succ, List.getElem?_cons_zero, List.length_cons, List.length_nil, true_and]
    exact hm _ ds p _ h1' h4 h5 (by omega) fun r hr => fin r hr
/-- one of the rows -/
theorem one_sat {t : Fn} {kd ka kr n : Nat} {ds : List D} (ht : ∀ (S : SS) (many : Int) (n : Nat) (P : D → SS → Prop), DA S kd ka n → n ≤ 1000000000000 → 0 < many → (∀ (r : Int) (S' : SS), 0 ≤ r → r < many → Up ka S S' → S'.length = S.length → DA S' kd ka (n + 1) → P (.int r) S') → Sat (t [.ref kd, .ref ka, .int many] S) P)
    (h : DA S kd ka n) (hn : n ≤ 1000000000000) (hr : S[kr]? = some (.lst ds)) (hk : kr ≠ ka) (hd : ds ≠ []) (k : ∀ (d : D) (S' : SS), d ∈ ds → Up ka S S' → S'.length = S.length → DA S' kd ka (n + 1) → P d S') : Sat (fnB (bOne t) 3 [.ref kr, .ref kd, .ref ka] S) P := by
  refine sat_fn ?_
  unfold bOne
  simp only [s_seq, s_ret, e_op2, startD, e_var, e_call, e_cb, a_cons, a_nil, List.map_cons, List.map_nil, List.length_cons, List.length_nil, List.cons_append, List.nil_append, List.getElem?_cons_succ, List.getElem?_cons_zero, so_lenL hr, true_and]
  have hpos : 0 < ds.length := List.length_pos_iff.mpr hd
  refine ht S _ n _ h hn (by omega) fun r S' h0 h1 up hl da => ?_
  obtain ⟨q, rfl⟩ := Int.eq_ofNat_of_zero_le h0
  have hq : q < ds.length := by omega
  have hr' := up.get _ _ hk hr
  rw [so_ixL hr' (n := q) (d := ds[q]) (List.getElem?_eq_getElem hq) rfl]
  exact k _ _ (List.getElem_mem hq) up hl da
end
end DL
set_option Elab.async false
set_option linter.all false
set_option maxRecDepth 100000
set_option maxHeartbeats 2000000
/-! DDraws: the draws of a script. -/
namespace DL
open PySem L2
noncomputable def bDraws : PSt := (sSeq (sAsg (eLst aNil) (.one 1)) (sSeq (sFor (iVal (eSl (eVar 0) oNone (oSome (eC (.int 63))))) (.one 2) (sSeq (sAsg (eCB (one absD) (aCons (eVar 2) aNil)) (.one 3)) (sSeq (sIf (tVal (eOp2 (cmpD .GtE) (eVar 3) (eOp2 (binD .Pow) (eC (.int 10)) (eC (.int 18))))) (sSeq (sFor (iOn rng1D (aCons (eC (.int 60)) aNil)) (.one 4) (sSeq (sIf (tVal (eOp2 (cmpD .Gt) (eVar 3) (eC (.int 0)))) (sSeq (sDrop (eMt miApp (eVar 1) (aCons (eOp2 (binD .Mod) (eCB (one intD) (aCons (eVar 3) aNil)) (eC (.int 1009))) aNil))) (sSeq (sAsg (eOp2 (binD .FloorDiv) (eVar 3) (eC (.int 1009))) (.one 3)) sNil)) sNil) sNil)) sNil) (sSeq (sAsg (eOp2 (binD .Mod) (eCB (one intD) (aCons (eOp2 (binD .Add) (eOp2 (binD .Mult) (eVar 3) (eC (.int 48271))) (eC (.int 11))) aNil)) (eC (.int 2147483647))) (.one 5)) (sSeq (sFor (iOn rng1D (aCons (eC (.int 12)) aNil)) (.one 4) (sSeq (sAsg (eOp2 (binD .Mod) (eCB (one intD) (aCons (eOp2 (binD .Add) (eOp2 (binD .Add) (eOp2 (binD .Mult) (eVar 5) (eC (.int 16807))) (eOp2 (binD .Mult) (eC (.int 69621)) (eVar 4))) (eC (.int 5))) aNil)) (eC (.int 2147483629))) (.one 5)) (sSeq (sDrop (eMt miApp (eVar 1) (aCons (eOp2 (binD .FloorDiv) (eVar 5) (eC (.int 1009))) aNil))) sNil))) sNil))) sNil))) (sSeq (sRet (eVar 1)) sNil)))
theorem rng_get {lo c : Int} {n j : Nat} {d : D} (h : (rngItems lo n c)[j]? = some d) : j < n ∧ d = .int (lo + (j : Int) * c) := by
  have h : ((List.range n).map fun i => D.int (lo + (i : Nat) * c))[j]? = some d := h
  rw [List.getElem?_map, Option.map_eq_some_iff] at h
  obtain ⟨k, e, rfl⟩ := h
  obtain ⟨h1, h2⟩ := List.getElem?_eq_some_iff.mp e
  simp at h1 h2
  subst h2
  exact ⟨h1, rfl⟩
theorem rng_len {lo c : Int} {n : Nat} : (rngItems lo n c).length = n := by simp [rngItems]
theorem rng1 {j : Int} {S : SS} (h : small j) : rng1D [.int j] S = some (rngItems 0 j.toNat 1, []) := by
  show (if small j then some (rngItems 0 j.toNat 1, []) else none) = _
  rw [if_pos h]
theorem miApp_g : miApp.g = appD := rfl
theorem app_lst {S : SS} {k : Nat} {ds : List D} {x : D} (h : S[k]? = some (.lst ds)) (hl : ds.length < sizeLine) : appD (.ref k) [x] S = some (.non, S.set k (.lst (ds ++ [x]))) := by
  unfold appD
  simp only [h, hl, if_true]
theorem isTy_lst {S : SS} {k : Nat} {ds : List D} (h : S[k]? = some (.lst ds)) : isTy "list" (.ref k) S = true := by
  unfold isTy
  simp only [h]
  rfl
theorem draws_sat {ns : List Int} {P : D → SS → Prop} (k : ∀ (ds : List Int) (l : List D), (∀ x ∈ ds, 0 ≤ x ∧ x < 2147483647) → ds.length ≤ 4000 → P (.ref 0) [.lst (ds.map .int), .lst l]) : Sat (fnB bDraws 6 [.rls (ns.map .int)] []) P := by
  refine sat_fn ?_
  unfold bDraws
  simp only [s_seq, s_asg1, e_lst, a_nil, startD, List.map_cons, List.map_nil, List.length_cons, List.length_nil, List.cons_append, List.nil_append, List.set_cons_succ, List.set_cons_zero, List.replicate]
  refine ⟨le_size (by decide), ?_⟩
  refine s_for ?_
  simp only [it_val, e_sl, e_var, o_none, o_some, e_c, intOf, List.getElem?_cons_succ, List.getElem?_cons_zero]
  -- the slice
  have hsl : ∀ P, SatO (slD none (some 63) (.rls (ns.map .int)) [.lst []]) P = P (.ref 1) [.lst [], .lst (cutD (ns.map .int) none (some 63))] := fun P => rfl
  rw [hsl]
  generalize hit : cutD (ns.map D.int) none (some 63) = items
  have hitl : items.length ≤ 63 := by
    subst hit
    unfold cutD
    rw [List.length_take]
    have : HT.sIx (ns.map D.int).length (ns.map D.int).length (some 63) ≤ 63 := by
      unfold HT.sIx
      simp only []
      rw [if_neg (by decide)]
      exact Nat.min_le_left _ _
    omega
  have hiti : ∀ d ∈ items, ∃ i : Int, d = .int i := fun d hd => by
    subst hit
    have := List.mem_of_mem_drop (List.mem_of_mem_take hd)
    rw [List.mem_map] at this
    obtain ⟨i, _, rfl⟩ := this
    exact ⟨i, rfl⟩
  have hiter : iterD (.ref 1) [.lst [], .lst items] = some (items, [(1, items)]) := rfl
  rw [hiter]
  refine ⟨fun j δ S => ∃ (ds : List Int) (o2 o3 o4 o5 : Option D), δ = [some (.rls (ns.map .int)), some (.ref 0), o2, o3, o4, o5] ∧ S = [.lst (ds.map .int), .lst items] ∧ (∀ x ∈ ds, 0 ≤ x ∧ x < 2147483647) ∧ ds.length ≤ j * 60, ⟨[], _, _, _, _, rfl, rfl, by simp, by simp⟩, ?_, ?_⟩
  · rintro j d δ S hj ⟨ds, o2, o3, o4, o5, rfl, rfl, hb, hl⟩
    have hj63 : j < 63 := Nat.lt_of_lt_of_le (List.getElem?_eq_some_iff.mp hj).1 hitl
    obtain ⟨c, rfl⟩ := hiti d (List.mem_of_getElem? hj)
    refine ⟨⟨rfl, trivial⟩, _, rfl, ?_⟩
    simp only [s_seq, s_asg1, e_cb, a_cons, a_nil, e_var, e_c, so_abs, s_if, t_val, e_op2, so_pow, so_ge, boolOf_bl, s_nil, List.getElem?_cons_succ, List.getElem?_cons_zero, List.set_cons_succ, List.set_cons_zero]
    refine ⟨by decide, ?_⟩
    generalize hr : (if c < 0 then -c else c) = rest
    have hr0 : 0 ≤ rest := by rw [← hr]; split <;> omega
    by_cases hbig : (10 : Int) ^ (18 : Int).toNat ≤ rest
    · rw [if_pos (by simpa using hbig)]
      refine s_for ?_
      simp only [it_on, a_cons, a_nil, e_c]
      rw [rng1 (by decide)]
      refine ⟨fun q δ S => ∃ (ds2 : List Int) (r : Int) (o4 : Option D), δ = [some (.rls (ns.map .int)), some (.ref 0), some (.int c), some (.int r), o4, o5] ∧ S = [.lst (ds2.map .int), .lst items] ∧ (∀ x ∈ ds2, 0 ≤ x ∧ x < 2147483647) ∧ ds2.length ≤ j * 60 + q ∧ 0 ≤ r, ⟨ds, rest, _, rfl, rfl, hb, by omega, hr0⟩, ?_, ?_⟩
      · rintro q d δ S hq ⟨ds2, r, o4', rfl, rfl, hb2, hl2, h0⟩
        obtain ⟨hq1, rfl⟩ := rng_get hq
        have hq1 : q < 60 := hq1
        refine ⟨trivial, _, rfl, ?_⟩
        simp only [s_seq, s_if, t_val, e_op2, e_var, e_c, so_gt, boolOf_bl, s_nil, s_drop, e_mt, miApp_g, a_cons, a_nil, e_cb, so_int, so_mod, List.getElem?_cons_succ, List.getElem?_cons_zero, List.set_cons_succ, List.set_cons_zero]
        have hS : ([.lst (ds2.map .int), .lst items] : SS)[0]? = some (.lst (ds2.map .int)) := rfl
        by_cases hp : 0 < r
        · rw [if_pos (by simpa using hp)]
          refine ⟨isTy_lst hS, by decide, ?_⟩
          rw [app_lst hS (by rw [List.length_map, sizeLine_eq]; omega)]
          simp only [sato_some, s_asg1, e_op2, e_var, e_c, so_fdiv, s_nil, List.getElem?_cons_succ, List.getElem?_cons_zero, List.set_cons_succ, List.set_cons_zero]
          refine ⟨divOk64 (by decide) (by decide), ds2 ++ [r.fmod 1009], r.fdiv 1009, _, rfl, by simp, ?_, by simp; omega, ?_⟩
          · intro x hx
            rw [List.mem_append] at hx
            rcases hx with hx | hx
            · exact hb2 x hx
            · simp at hx
              subst hx
              rw [fmod_pos (by omega)]
              omega
          · rw [fdiv_pos (by omega)]
            omega
        · rw [if_neg (by simpa using hp)]
          exact ⟨ds2, r, _, rfl, rfl, hb2, by omega, h0⟩
      · rintro δ S ⟨ds2, r, o4', rfl, rfl, hb2, hl2, h0⟩
        refine ⟨trivial, ds2, _, _, _, _, rfl, rfl, hb2, ?_⟩
        have : (rngItems 0 (60 : Int).toNat 1).length = 60 := rng_len
        rw [this] at hl2
        omega
    · rw [if_neg (by simpa using hbig)]
      have hrb : rest < 10 ^ 18 := by
        have : ¬ (10 : Int) ^ 18 ≤ rest := hbig
        omega
      simp only [s_seq, s_asg1, e_op2, e_cb, a_cons, a_nil, e_var, e_c, so_mul, so_add, so_int, so_mod, List.getElem?_cons_succ, List.getElem?_cons_zero, List.set_cons_succ, List.set_cons_zero]
      refine ⟨mulOk64 (by omega) (by omega), by decide, ?_⟩
      refine s_for ?_
      simp only [it_on, a_cons, a_nil, e_c]
      rw [rng1 (by decide)]
      refine ⟨fun q δ S => ∃ (ds2 : List Int) (m : Int) (o4 : Option D), δ = [some (.rls (ns.map .int)), some (.ref 0), some (.int c), some (.int rest), o4, some (.int m)] ∧ S = [.lst (ds2.map .int), .lst items] ∧ (∀ x ∈ ds2, 0 ≤ x ∧ x < 2147483647) ∧ ds2.length ≤ j * 60 + q ∧ 0 ≤ m ∧ m < 2147483647, ⟨ds, _, _, rfl, rfl, hb, by omega, ?_, ?_⟩, ?_, ?_⟩
      · rw [fmod_pos (by omega)]; omega
      · rw [fmod_pos (by omega)]; omega
      · rintro q d δ S hq ⟨ds2, m, o4', rfl, rfl, hb2, hl2, h0, h1⟩
        obtain ⟨hq1, rfl⟩ := rng_get hq
        have hq1 : q < 12 := hq1
        refine ⟨trivial, _, rfl, ?_⟩
        have hS : ([.lst (ds2.map .int), .lst items] : SS)[0]? = some (.lst (ds2.map .int)) := rfl
        simp only [s_seq, s_asg1, e_op2, e_cb, a_cons, a_nil, e_var, e_c, so_mul, so_add, so_int, so_mod, so_fdiv, s_drop, e_mt, miApp_g, s_nil, List.getElem?_cons_succ, List.getElem?_cons_zero, List.set_cons_succ, List.set_cons_zero]
        refine ⟨mulOk64 (by omega) (by omega), mulOk64 (by omega) (by omega), by decide, isTy_lst hS, divOk64 (by decide) (by decide), ?_⟩
        generalize hmm : ((m * 16807 + 69621 * (0 + (q : Int) * 1) + 5).fmod 2147483629) = m2
        have hm2 : 0 ≤ m2 ∧ m2 < 2147483629 := by
          rw [← hmm, fmod_pos (by omega)]
          omega
        rw [app_lst hS (by rw [List.length_map, sizeLine_eq]; omega)]
        refine ⟨ds2 ++ [m2.fdiv 1009], m2, _, rfl, by simp, ?_, by simp; omega, hm2.1, by omega⟩
        intro x hx
        rw [List.mem_append] at hx
        rcases hx with hx | hx
        · exact hb2 x hx
        · simp at hx
          subst hx
          rw [fdiv_pos (by omega)]
          omega
      · rintro δ S ⟨ds2, m, o4', rfl, rfl, hb2, hl2, h0, h1⟩
        refine ⟨trivial, ?_⟩
        have : (rngItems 0 (12 : Int).toNat 1).length = 12 := rng_len
        rw [this] at hl2
        exact ⟨ds2, _, _, _, _, rfl, rfl, hb2, by omega⟩
  · rintro δ S ⟨ds, o2, o3, o4, o5, rfl, rfl, hb, hl⟩
    refine ⟨⟨rfl, trivial⟩, ?_⟩
    simp only [s_seq, s_ret, e_var, s_nil, List.getElem?_cons_succ, List.getElem?_cons_zero]
    refine k ds items hb ?_
    have hl : ds.length ≤ items.length * 60 := hl
    omega
end DL
set_option Elab.async false
set_option linter.all false
set_option maxRecDepth 100000
set_option maxHeartbeats 2000000
/-! DPlain: repr, ==, greatest common divisors. -/
namespace DL
open PySem L2
section
variable {S : SS} {P : D → SS → Prop}
/-- a text with at most n digits and a sign -/
theorem int_len {a : Int} {k : Nat} (hk : 0 < k) (h : a.natAbs < 10 ^ k) : (Str.ofString (toString a)).length ≤ k + 1 := by
  rw [ofString_length]
  have key : ∀ n : Nat, n < 10 ^ k → (Nat.repr n).length ≤ k := fun n hn => (Nat.length_repr_le_iff hk).mpr hn
  cases a with
  | ofNat n =>
    have := key n h
    show (Nat.repr n).length ≤ _
    omega
  | negSucc n =>
    have := key (n + 1) h
    show ("-" ++ Nat.repr (n + 1)).length ≤ _
    rw [String.length_append]
    have : ("-" : String).length = 1 := rfl
    omega
theorem log2_1920 {a : Int} (h : a.natAbs < 2 ^ 1900) : a.natAbs.log2 < 1920 := Nat.lt_of_le_of_lt (log2_le h) (by decide)
theorem repr_any {d : D} {p : PyData} (h : py S d = some p) (ok : reprOk p) : SatO (one reprD [d] S) P = P (.str p.shown) S := by
  unfold one reprD
  simp only [h]
  rw [if_pos ok]
  rfl
/-- tuples of two numbers -/
theorem ok_two {n m : Int} (hn : n.natAbs < 2 ^ 1900) (hm : m.natAbs < 2 ^ 1900) : reprOk (.tuple [.int n, .int m]) := by
  refine ⟨?_, rfl, Nat.le_of_ble_eq_true rfl, ?_⟩
  · show (decide (n.natAbs.log2 < 1920) && (decide (m.natAbs.log2 < 1920) && true)) = true
    rw [decide_eq_true (log2_1920 hn), decide_eq_true (log2_1920 hm)]
    rfl
  · have e : (2 : Nat) ^ 1900 ≤ 10 ^ 600 := by decide +kernel
    have h1 := int_len (a := n) (k := 600) (by decide) (Nat.lt_of_lt_of_le hn e)
    have h2 := int_len (a := m) (k := 600) (by decide) (Nat.lt_of_lt_of_le hm e)
    show (("(" : Str) ++ (Str.ofString (toString n) ++ ", " ++ Str.ofString (toString m)) ++ (")" : Str)).length ≤ sizeLine
    rw [strLen_append, strLen_append, strLen_append, strLen_append]
    have a1 : ("(" : Str).length = 1 := rfl
    have a2 : (")" : Str).length = 1 := rfl
    have a3 : (", " : Str).length = 2 := rfl
    rw [sizeLine_eq]
    omega
theorem repr_two {n m : Int} (hn : n.natAbs < 2 ^ 1900) (hm : m.natAbs < 2 ^ 1900) : SatO (one reprD [.tup [.int n, .int m]] S) P = P (.str (PyData.tuple [.int n, .int m]).shown) S := repr_any rfl (ok_two hn hm)
@[simp] theorem ne_str {x y : Str} : SatO (cmpD .NotEq (.str x) (.str y) S) P = P (.bl (!decide (x = y))) S := (rfl)
@[simp] theorem eq_str {x y : Str} : SatO (cmpD .Eq (.str x) (.str y) S) P = P (.bl (decide (x = y))) S := (rfl)
theorem ne_any {d e : D} {p q : PyData} (h1 : py S d = some p) (h2 : py S e = some q) (hs : ∀ x y, d = .str x → e = .str y → False) (s1 : SeqAt.shaped p = true) (s2 : SeqAt.shaped q = true) : SatO (cmpD .NotEq d e S) P = P (.bl (!PyData.eqv p q)) S := by
  show SatO (neD d e S) P = _
  unfold neD
  split
  · exact (hs _ _ rfl rfl).elim
  · simp only [h1, h2, s1, s2, and_self, if_true, sato_some]
theorem eq_any {d e : D} {p q : PyData} (h1 : py S d = some p) (h2 : py S e = some q) (hs : ∀ x y, d = .str x → e = .str y → False) (s1 : SeqAt.shaped p = true) (s2 : SeqAt.shaped q = true) : SatO (cmpD .Eq d e S) P = P (.bl (PyData.eqv p q)) S := by
  show SatO (eqD d e S) P = _
  unfold eqD
  split
  · exact (hs _ _ rfl rfl).elim
  · simp only [h1, h2, s1, s2, and_self, if_true, sato_some]
@[simp] theorem ne_int {i j : Int} : SatO (cmpD .NotEq (.int i) (.int j) S) P = P (.bl (!(i == j))) S := by
  rw [ne_any (p := .int i) (q := .int j) rfl rfl (fun x y h _ => by cases h) rfl rfl]
  simp only [PyData.eqv]
@[simp] theorem eq_int {i j : Int} : SatO (cmpD .Eq (.int i) (.int j) S) P = P (.bl (i == j)) S := by
  rw [eq_any (p := .int i) (q := .int j) rfl rfl (fun x y h _ => by cases h) rfl rfl]
  simp only [PyData.eqv]

/-! ### the greatest common divisor, by dividing again and again -/
/-- while b > 0: a, b = b, a % b; body given: what it does upon a slot list -/
theorem gcd_loop {b : PSt} {t : PTs'} {Pn : Sl → SS → Prop} {Pr : D → SS → Prop} (δf : Int → Int → Sl)
    (ht : ∀ (x y : Int) (S : SS) (P : Bool → SS → Prop), P (decide (0 < y)) S → Sat (t (δf x y) S) P)
    (hb : ∀ (x y : Int) (S : SS) (Pn : Sl → SS → Prop), 0 ≤ x → 0 < y → Pn (δf y (x % y)) S → RSat (b (δf x y) S) Pn Pr) :
    ∀ (y x : Nat) (S : SS), (Pn (δf (Nat.gcd x y : Nat) 0) S) → RSat (sWhile t b (δf x y) S) Pn Pr := by
  intro y x S h
  refine s_while (fun m δ S' => S' = S ∧ ∃ x' : Nat, δ = δf x' (m : Nat) ∧ Nat.gcd x' m = Nat.gcd x y) (fun m δ S' hI => ?_) y _ S ⟨rfl, x, rfl, rfl⟩
  obtain ⟨rfl, x', rfl, hg⟩ := hI
  refine ht _ _ _ _ ?_
  by_cases hm : 0 < m
  · rw [if_pos (by simpa using hm)]
    refine hb _ _ _ _ (by omega) (by omega) ⟨x' % m, Nat.mod_lt _ hm, rfl, m, by rw [Int.natCast_emod], ?_⟩
    rw [← hg, Nat.gcd_comm x' m]
    exact (Nat.gcd_rec m x').symm ▸ (Nat.gcd_comm _ _)
  · have : m = 0 := by omega
    subst this
    rw [if_neg (by simp)]
    rw [← hg, Nat.gcd_zero_right] at h
    exact h
/-- a list by a function -/
theorem lc_map {it : PIt} {ct : CT} {vs : List Nat} {el : PEx} {δ : Sl} {items : List D} {g : D → D} (hit : Sat (it δ S) fun x S1 => (∀ l, gOk x.2 (S ++ l)) ∧ S1 = S ∧ x.1 = items)
    (hel : ∀ d ∈ items, ∃ δ1, bindC ct d (wipeD δ vs) = some δ1 ∧ ∀ (S' : SS) (P : D → SS → Prop), (∀ l, P (g d) (S' ++ l)) → Sat (el δ1 S') P) (hl : items.length ≤ 100000) (k : ∀ l, P (.ref S.length) (S ++ .lst (items.map g) :: l)) : Sat (eLc it ct vs tYes' el δ S) P := by
  refine e_lc (hit.mono fun x S1 hx => ?_)
  obtain ⟨hgd, rfl, hi⟩ := hx
  subst hi
  refine ⟨fun j acc S' => acc = (x.1.take j).map g ∧ ∃ l, S' = S1 ++ .lst acc :: l, fun i acc S' hI => ?_, ⟨rfl, [], rfl⟩, fun j d acc S' hj hI => ?_, fun acc S' hI => ?_⟩
  · obtain ⟨_, l, rfl⟩ := hI
    simp
  · obtain ⟨rfl, l, rfl⟩ := hI
    obtain ⟨δ1, hb, he⟩ := hel d (List.mem_of_getElem? hj)
    have hjl := (List.getElem?_eq_some_iff.mp hj).1
    refine ⟨hgd _, δ1, hb, ?_⟩
    simp only [t_yes, if_true]
    refine he _ _ fun l2 => ⟨(x.1.take j).map g, by simp, by rw [List.length_map, List.length_take, sizeLine_eq]; omega, ?_, l ++ l2, by simp⟩
    rw [List.take_add_one, hj]
    simp
  · obtain ⟨rfl, l, rfl⟩ := hI
    refine ⟨hgd _, ?_⟩
    rw [List.take_length]
    exact k l
theorem bls_map {α : Type} {f : α → Bool} : ∀ l : List α, blsD (l.map fun a => D.bl (f a)) = some (l.map f)
  | [] => rfl
  | a :: l => by
    show (blsD (l.map fun a => D.bl (f a))).map (f a :: ·) = _
    rw [bls_map l]
    rfl
theorem all_map {α : Type} {f : α → Bool} {l : List α} {k : Nat} (h : S[k]? = some (.lst (l.map fun a => D.bl (f a)))) : SatO (one allD [.ref k] S) P = P (.bl (l.all f)) S := by
  unfold one allD itemsD
  simp only [h, bls_map, sato_some]
  congr 2
  rw [List.all_map]
  rfl
end
end DL
set_option Elab.async false
set_option linter.all false
set_option maxRecDepth 100000
set_option maxHeartbeats 2000000
/-! DTold: the suite that tells an error's reason. -/
namespace DL
open PySem L2
/-- return ("word", e.reason) if isinstance(e, WheelError) else "" -/
def toldB (st : Stmt) (wd f g n c : Str) : Bool := match st with
  | .Return (some (.IfExp (.Call (.Name g' _) [.Name n' _, .Name c' _] [] _) (.Tuple [.Constant (.str wd') _ _, .Attribute (.Name n2 _) f' _] _ _) (.Constant (.str _) _ _) _)) _ => g' == g && n' == n && c' == c && wd' == wd && n2 == n && f' == f
  | _ => false
theorem told_hX {O : Orc} {E : SE} {st : Stmt} {wd f g n c : Str} {i : Nat} {Cr cW : Addr} {x : D} {h : HSt} {δ : Sl} {S : SS} (ht : toldB st wd f g n c = true) (hh : hS1 O E n i st = some h) (hg : isIsi E g = true) (hc : clsOf E c = some cW) (hs : O.sb Cr cW = some true) (hf : O.fd Cr f = true) :
    h Cr [(f, x)] δ S = .rt (.tup [.str wd, x]) S := by
  unfold toldB at ht
  split at ht
  · rename_i g' _ n' _ c' _ _ wd' _ _ n2 _ f' _ _ _ _ _ _ _ _
    simp only [Bool.and_eq_true, beq_iff_eq] at ht
    obtain ⟨⟨⟨⟨⟨rfl, rfl⟩, rfl⟩, rfl⟩, rfl⟩, rfl⟩ := ht
    simp only [hS1, Option.some.injEq] at hh
    subst hh
    simp [hX, hI, hXs, hF, hC, isCall, noStar, hg, hc, hs, hf, List.lookup]
  · cases ht
/-- return ("word", e.f) -/
def toldC (st : Stmt) (wd f n : Str) : Bool := match st with
  | .Return (some (.Tuple [.Constant (.str wd') _ _, .Attribute (.Name n2 _) f' _] _ _)) _ => wd' == wd && n2 == n && f' == f
  | _ => false
theorem told_hY {O : Orc} {E : SE} {st : Stmt} {wd f n : Str} {i : Nat} {Cr : Addr} {x : D} {fs : List (Str × D)} {h : HSt} {δ : Sl} {S : SS} (ht : toldC st wd f n = true) (hh : hS1 O E n i st = some h) (hf : O.fd Cr f = true) (hx : fs.lookup f = some x) :
    h Cr fs δ S = .rt (.tup [.str wd, x]) S := by
  unfold toldC at ht
  split at ht
  · rename_i wd' _ _ n2 _ f' _ _ _ _
    simp only [Bool.and_eq_true, beq_iff_eq] at ht
    obtain ⟨⟨rfl, rfl⟩, rfl⟩ := ht
    simp only [hS1, Option.some.injEq] at hh
    subst hh
    simp [hX, hXs, hF, hC, noStar, hf, hx]
  · cases ht
/-- return ("word", e.f, e.g) -/
def toldE (st : Stmt) (wd f g n : Str) : Bool := match st with
  | .Return (some (.Tuple [.Constant (.str wd') _ _, .Attribute (.Name n2 _) f' _, .Attribute (.Name n3 _) g' _] _ _)) _ => wd' == wd && n2 == n && f' == f && n3 == n && g' == g
  | _ => false
theorem told_hZ {O : Orc} {E : SE} {st : Stmt} {wd f g n : Str} {i : Nat} {Cr : Addr} {x y : D} {fs : List (Str × D)} {h : HSt} {δ : Sl} {S : SS} (ht : toldE st wd f g n = true) (hh : hS1 O E n i st = some h) (hf : O.fd Cr f = true) (hg : O.fd Cr g = true) (hx : fs.lookup f = some x) (hy : fs.lookup g = some y) :
    h Cr fs δ S = .rt (.tup [.str wd, x, y]) S := by
  unfold toldE at ht
  split at ht
  · rename_i wd' _ _ n2 _ f' _ n3 _ g' _ _ _ _
    simp only [Bool.and_eq_true, beq_iff_eq] at ht
    obtain ⟨⟨⟨⟨rfl, rfl⟩, rfl⟩, rfl⟩, rfl⟩ := ht
    simp only [hS1, Option.some.injEq] at hh
    subst hh
    simp [hX, hXs, hF, hC, noStar, hf, hg, hx, hy]
  · cases ht
end DL
set_option Elab.async false
set_option linter.all false
set_option maxRecDepth 100000
set_option maxHeartbeats 2000000
/-! DFrac: fractions in least terms. -/
namespace DL
open PySem L2
/-- the pair in least terms -/
def nu (a b : Int) : Int := (if b < 0 then -a else a) / (Int.gcd a b : Nat)
def de (a b : Int) : Int := (b.natAbs : Int) / (Int.gcd a b : Nat)
def fr (a b : Int) : D := .tup [.int (nu a b), .int (de a b)]
theorem gcd_pos {a b : Int} (h : b ≠ 0) : 0 < Int.gcd a b := Int.gcd_pos_of_ne_zero_right a h
theorem gcd_le {a b : Int} (h : b ≠ 0) : Int.gcd a b ≤ b.natAbs := Int.gcd_le_natAbs_right a h
theorem gcd_l {a b : Int} : ((Int.gcd a b : Nat) : Int) ∣ a := Int.gcd_dvd_left a b
theorem gcd_r {a b : Int} : ((Int.gcd a b : Nat) : Int) ∣ b := Int.gcd_dvd_right a b
theorem fdn {x g : Int} (hg : 0 < g) (hd : g ∣ x) : x.fdiv (-g) = (-x) / g := by
  rw [Int.fdiv_neg (by omega), if_pos hd, fdiv_pos hg, Int.neg_ediv_of_dvd hd]
theorem nu_neg {a b : Int} (h : b < 0) : a.fdiv (-(Int.gcd a b : Nat)) = nu a b := by
  have g0 := gcd_pos (a := a) (b := b) (by omega)
  rw [fdn (by omega) gcd_l]
  unfold nu
  rw [if_pos h]
theorem de_neg' {a b : Int} (h : b < 0) : b.fdiv (-(Int.gcd a b : Nat)) = de a b := by
  have g0 := gcd_pos (a := a) (b := b) (by omega)
  rw [fdn (by omega) gcd_r]
  unfold de
  congr 1
  omega
theorem nu_pos {a b : Int} (h : ¬ b < 0) (h0 : b ≠ 0) : a.fdiv (Int.gcd a b : Nat) = nu a b := by
  have g0 := gcd_pos (a := a) h0
  rw [fdiv_pos (by omega)]
  unfold nu
  rw [if_neg h]
theorem de_pos {a b : Int} (h : ¬ b < 0) (h0 : b ≠ 0) : b.fdiv (Int.gcd a b : Nat) = de a b := by
  have g0 := gcd_pos (a := a) h0
  rw [fdiv_pos (by omega)]
  unfold de
  congr 1
  omega
/-- both numbers of a fraction are small if those are from which it is made -/
theorem nu_le {a b : Int} (h : b ≠ 0) : (nu a b).natAbs ≤ a.natAbs := by
  unfold nu
  have g0 := gcd_pos (a := a) h
  rw [Int.natAbs_ediv_of_dvd]
  · split <;> simp <;> exact Nat.div_le_self _ _
  · split
    · exact Int.dvd_neg.mpr gcd_l
    · exact gcd_l
theorem de_le {a b : Int} (h : b ≠ 0) : (de a b).natAbs ≤ b.natAbs := by
  unfold de
  rw [Int.natAbs_ediv_of_dvd]
  · simp; exact Nat.div_le_self _ _
  · exact Int.dvd_natAbs.mpr gcd_r
theorem de_one {a b : Int} (h : b ≠ 0) : 1 ≤ de a b := by
  unfold de
  have g0 := gcd_pos (a := a) h
  have g1 := gcd_le (a := a) h
  exact (Int.le_ediv_iff_mul_le (by omega)).mpr (by omega)
/-- the same quotient -/
theorem cross {a b : Int} (h : b ≠ 0) : nu a b * b = de a b * a := by
  have g0 := gcd_pos (a := a) h
  obtain ⟨x, hx⟩ := gcd_l (a := a) (b := b)
  obtain ⟨y, hy⟩ := gcd_r (a := a) (b := b)
  generalize hg : ((Int.gcd a b : Nat) : Int) = g at hx hy
  have hg0 : g ≠ 0 := by omega
  by_cases hb : b < 0
  · have e1 : nu a b = -x := by
      unfold nu
      rw [if_pos hb, hg, hx, ← Int.mul_neg, Int.mul_ediv_cancel_left _ hg0]
    have e2 : de a b = -y := by
      unfold de
      rw [hg, show (b.natAbs : Int) = -b by omega]
      conv => lhs; lhs; rw [hy]
      rw [← Int.mul_neg, Int.mul_ediv_cancel_left _ hg0]
    rw [e1, e2]
    conv => lhs; rw [hy]
    conv => rhs; rw [hx]
    grind
  · have e1 : nu a b = x := by
      unfold nu
      rw [if_neg hb, hg]
      conv => lhs; lhs; rw [hx]
      rw [Int.mul_ediv_cancel_left _ hg0]
    have e2 : de a b = y := by
      unfold de
      rw [hg, show (b.natAbs : Int) = b by omega]
      conv => lhs; lhs; rw [hy]
      rw [Int.mul_ediv_cancel_left _ hg0]
    rw [e1, e2]
    conv => lhs; rw [hy]
    conv => rhs; rw [hx]
    grind
/-- it is in least terms -/
theorem co {a b : Int} (h : b ≠ 0) : Int.gcd (nu a b) (de a b) = 1 := by
  have g0 := gcd_pos (a := a) h
  unfold nu de
  have e : ((b.natAbs : Int) / (Int.gcd a b : Nat)).natAbs = b.natAbs / Int.gcd a b := by
    rw [Int.natAbs_ediv_of_dvd (Int.dvd_natAbs.mpr gcd_r)]
    simp
  have e2 : ((if b < 0 then -a else a) / (Int.gcd a b : Nat)).natAbs = a.natAbs / Int.gcd a b := by
    rw [Int.natAbs_ediv_of_dvd]
    · split <;> simp
    · split
      · exact Int.dvd_neg.mpr gcd_l
      · exact gcd_l
  show Nat.gcd _ _ = 1
  rw [e, e2]
  rw [Nat.gcd_div (Int.natAbs_dvd_natAbs.mpr gcd_l |> fun z => by simpa using z) (Int.natAbs_dvd_natAbs.mpr gcd_r |> fun z => by simpa using z)]
  exact Nat.div_self g0
theorem mul_lt {x y : Int} {a b : Nat} (hx : x.natAbs < 2 ^ a) (hy : y.natAbs < 2 ^ b) : (x * y).natAbs < 2 ^ (a + b) := by
  rw [Int.natAbs_mul, Nat.pow_add]
  exact Nat.mul_lt_mul'' hx hy

/-- two pairs with the same quotient have the same least terms -/
theorem fr_eq {a b c d : Int} (hb : 0 < b) (hd : 0 < d) (h : a * d = c * b) : fr a b = fr c d := by
  have key : ∀ a b c d : Int, 0 < b → 0 < d → a * d = c * b → nu a b = nu c d ∧ de a b = de c d := fun a b c d hb hd h => by
    have hb0 : b ≠ 0 := by omega
    have hd0 : d ≠ 0 := by omega
    have c1 := cross (a := a) hb0
    have c2 := cross (a := c) hd0
    have o1 := co (a := a) hb0
    have o2 := co (a := c) hd0
    have p1 := de_one (a := a) hb0
    have p2 := de_one (a := c) hd0
    generalize nu a b = n at *
    generalize de a b = m at *
    generalize nu c d = n' at *
    generalize de c d = m' at *
    -- n * b = m * a, n' * d = m' * c, a * d = c * b: so n * m' = n' * m
    have e : n * m' = n' * m := by
      have h1 : (n * m') * (b * d) = (n' * m) * (b * d) := by
        have x1 : (n * m') * (b * d) = (n * b) * (m' * d) := by grind
        have x2 : (n' * m) * (b * d) = (n' * d) * (m * b) := by grind
        rw [x1, x2, c1, c2]
        have x3 : (m * a) * (m' * d) = (m * m') * (a * d) := by grind
        have x4 : (m' * c) * (m * b) = (m * m') * (c * b) := by grind
        rw [x3, x4, h]
      exact Int.eq_of_mul_eq_mul_right (Int.mul_ne_zero hb0 hd0) h1
    have d1 : m ∣ m' := by
      have : m ∣ n * m' := ⟨n', by rw [e]; exact Int.mul_comm _ _⟩
      have := Int.dvd_gcd_mul_iff_dvd_mul.mpr this
      rw [Int.gcd_comm, o1] at this
      simpa using this
    have d2 : m' ∣ m := by
      have : m' ∣ n' * m := ⟨n, by rw [← e]; exact Int.mul_comm _ _⟩
      have := Int.dvd_gcd_mul_iff_dvd_mul.mpr this
      rw [Int.gcd_comm, o2] at this
      simpa using this
    have em : m = m' := Int.dvd_antisymm (by omega) (by omega) d1 d2
    subst em
    exact ⟨Int.eq_of_mul_eq_mul_right (by omega) e, rfl⟩
  obtain ⟨e1, e2⟩ := key a b c d hb hd h
  unfold fr
  rw [e1, e2]
theorem gcd_one_nu {n m : Int} (hm : 0 < m) (h : Int.gcd n m = 1) : nu n m = n ∧ de n m = m := by
  unfold nu de
  rw [h, if_neg (by omega)]
  constructor
  · simp
  · simp; omega
end DL
set_option Elab.async false
set_option linter.all false
set_option maxRecDepth 100000
set_option maxHeartbeats 1000000
/-! DX: trees run by rules, exceptions told too. -/
namespace DL
open PySem L2
abbrev XQ := Addr → List (Str × D) → SS → Prop
def XSat {α : Type} (r : R α) (P : α → SS → Prop) (X : XQ) : Prop := match r with
  | .ok x S => P x S
  | .exc C fs S => X C fs S
  | .bad => False
def XR (r : RS) (Pn : Sl → SS → Prop) (Pr : D → SS → Prop) (X : Sl → XQ) : Prop := match r with
  | .nx δ S => Pn δ S
  | .rt d S => Pr d S
  | .exc δ C fs S => X δ C fs S
  | _ => False
abbrev noX : XQ := fun _ _ _ => False
section
variable {α β : Type} {δ : Sl} {S : SS} {P : D → SS → Prop} {Pn : Sl → SS → Prop} {Pr : D → SS → Prop} {X : XQ} {Y : Sl → XQ}
@[simp] theorem xsat_ok {x : α} {P : α → SS → Prop} : XSat (.ok x S) P X = P x S := (rfl)
@[simp] theorem xsat_bad {P : α → SS → Prop} : XSat (.bad : R α) P X = False := (rfl)
@[simp] theorem xsat_exc {C : Addr} {fs : List (Str × D)} {P : α → SS → Prop} : XSat (.exc C fs S : R α) P X = X C fs S := (rfl)
@[simp] theorem xsat_bind {r : R α} {k : α → SS → R β} {P : β → SS → Prop} : XSat (r.bind k) P X = XSat r (fun x S => XSat (k x S) P X) X := by cases r <;> rfl
@[simp] theorem xsat_ofO {o : Option (D × SS)} : XSat (R.ofO o) P X = SatO o P := by cases o <;> rfl
@[simp] theorem xsat_ofT {o : Option Bool} {P : Bool → SS → Prop} : XSat (DL.ofT o S) P X = (match o with | some b => P b S | none => False) := by cases o <;> rfl
@[simp] theorem xr_nx : XR (.nx δ S) Pn Pr Y = Pn δ S := (rfl)
@[simp] theorem xr_rt {d : D} : XR (.rt d S) Pn Pr Y = Pr d S := (rfl)
@[simp] theorem xr_bad : XR .bad Pn Pr Y = False := (rfl)
@[simp] theorem xr_exc {C : Addr} {fs : List (Str × D)} : XR (.exc δ C fs S) Pn Pr Y = Y δ C fs S := (rfl)
@[simp] theorem xr_to {r : R α} {k : α → SS → RS} : XR (r.to δ k) Pn Pr Y = XSat r (fun x S => XR (k x S) Pn Pr Y) (Y δ) := by cases r <;> rfl
@[simp] theorem xr_seq {r : RS} {g : PSt} : XR (r.seq g) Pn Pr Y = XR r (fun δ S => XR (g δ S) Pn Pr Y) Pr Y := by cases r <;> rfl
theorem Sat.x {r : R α} {P : α → SS → Prop} (h : Sat r P) : XSat r P X := by
  cases r with
  | ok x S => exact h
  | _ => exact h.elim
theorem XSat.s {r : R α} {P : α → SS → Prop} (h : XSat r P noX) : Sat r P := by
  cases r with
  | ok x S => exact h
  | _ => exact h.elim
theorem XR.s {r : RS} (h : XR r Pn Pr fun _ => noX) : RSat r Pn Pr := by
  cases r with
  | nx x S => exact h
  | rt x S => exact h
  | _ => exact h.elim
theorem RSat.x {r : RS} (h : RSat r Pn Pr) : XR r Pn Pr Y := by
  cases r with
  | nx x S => exact h
  | rt x S => exact h
  | _ => exact h.elim
theorem XSat.mono {r : R α} {P P' : α → SS → Prop} {X' : XQ} (h : XSat r P X) (i : ∀ x S, P x S → P' x S) (j : ∀ c f S, X c f S → X' c f S) : XSat r P' X' := by
  cases r with
  | ok x S => exact i _ _ h
  | exc c f S => exact j _ _ _ h
  | _ => exact h.elim
theorem XR.mono {r : RS} {Pn' : Sl → SS → Prop} {Pr' : D → SS → Prop} {Y' : Sl → XQ} (h : XR r Pn Pr Y) (i : ∀ x S, Pn x S → Pn' x S) (j : ∀ x S, Pr x S → Pr' x S) (l : ∀ δ c f S, Y δ c f S → Y' δ c f S) : XR r Pn' Pr' Y' := by
  cases r with
  | nx x S => exact i _ _ h
  | rt x S => exact j _ _ h
  | exc δ c f S => exact l _ _ _ _ h
  | _ => exact h.elim
/-- a def -/
theorem x_fn {b : PSt} {n : Nat} {ds : List D} (h : XR (b (startD n ds) S) (fun _ S' => P .non S') P (fun _ => X)) : XSat (fnB b n ds S) P X := by
  unfold fnB
  cases hb : b (startD n ds) S with
  | nx x S => rw [hb] at h; exact h
  | rt x S => rw [hb] at h; exact h
  | exc x c f S => rw [hb] at h; exact h
  | _ => rw [hb] at h; exact h.elim

/-! ### statements -/
@[simp] theorem x_seq {a b : PSt} : XR (sSeq a b δ S) Pn Pr Y = XR (a δ S) (fun δ S => XR (b δ S) Pn Pr Y) Pr Y := by unfold sSeq; rw [xr_seq]
@[simp] theorem x_nil : XR (sNil δ S) Pn Pr Y = Pn δ S := (rfl)
@[simp] theorem x_drop {f : PEx} : XR (sDrop f δ S) Pn Pr Y = XSat (f δ S) (fun _ S1 => Pn δ S1) (Y δ) := by unfold sDrop; rw [xr_to]; rfl
@[simp] theorem x_ret {f : PEx} : XR (sRet f δ S) Pn Pr Y = XSat (f δ S) Pr (Y δ) := by unfold sRet; rw [xr_to]; rfl
@[simp] theorem x_retN : XR (sRetN δ S) Pn Pr Y = Pr .non S := (rfl)
@[simp] theorem x_if {t : PTs'} {a b : PSt} : XR (sIf t a b δ S) Pn Pr Y = XSat (t δ S) (fun c S1 => if c = true then XR (a δ S1) Pn Pr Y else XR (b δ S1) Pn Pr Y) (Y δ) := by
  unfold sIf
  rw [xr_to]
  congr 1
  funext c S1
  cases c <;> rfl
@[simp] theorem x_asg1 {f : PEx} {i : Nat} : XR (sAsg f (.one i) δ S) Pn Pr Y = XSat (f δ S) (fun x S1 => Pn (δ.set i (some x)) S1) (Y δ) := by unfold sAsg; rw [xr_to]; rfl
theorem x_asgN {f : PEx} {is : List Nat} : XR (sAsg f (.many is) δ S) Pn Pr Y = XSat (f δ S) (fun x S1 => (match bindC (.many is) x δ with
  | some δ' => Pn δ' S1
  | none => False)) (Y δ) := by
  unfold sAsg
  rw [xr_to]
  congr 1
  funext x S1
  cases bindC (.many is) x δ <;> rfl
@[simp] theorem x_par {fa fb : PEx} {i j : Nat} : XR (sPar i j fa fb δ S) Pn Pr Y = XSat (fa δ S) (fun x S1 => XSat (fb δ S1) (fun y S2 => Pn ((δ.set i (some x)).set j (some y)) S2) (Y δ)) (Y δ) := by unfold sPar; rw [xr_to]; congr 1; funext x S1; rw [xr_to]; rfl
@[simp] theorem x_raise {C : Addr} {fs : List Str} {a : PAs} : XR (sRaise C fs a δ S) Pn Pr Y = XSat (a δ S) (fun xs S1 => xs.length = fs.length ∧ Y δ C (fs.zip xs).reverse S1) (Y δ) := by
  unfold sRaise
  rw [xr_to]
  congr 1
  funext xs S1
  split
  · rename_i h
    simp only [h, xr_exc, true_and]
  · rename_i h
    simp only [h, xr_bad, false_and]
@[simp] theorem x_set {f o i : PEx} : XR (sSet f o i δ S) Pn Pr Y = XSat (f δ S) (fun x S1 => XSat (o δ S1) (fun y S2 => XSat (i δ S2) (fun z S3 => (match setD y z x S3 with
  | some S4 => Pn δ S4
  | none => False)) (Y δ)) (Y δ)) (Y δ) := by
  unfold sSet
  rw [xr_to]; congr 1; funext x S1
  rw [xr_to]; congr 1; funext y S2
  rw [xr_to]; congr 1; funext z S3
  cases setD y z x S3 <;> rfl
/-- a try -/
theorem x_try {O : Orc} {b : PSt} {cl : List Cl} : XR (sTry O b cl δ S) Pn Pr Y = XR (b δ S) Pn Pr (fun δ' C fs S' => XR (catchL O cl C fs δ' S') Pn Pr Y) := by
  unfold sTry
  cases hb : b δ S <;> rfl
/-- caught by the first clause, whose suite returns -/
theorem x_catch {O : Orc} {cl : List Cl} {c C : Addr} {i : Nat} {h : HSt} {fs : List (Str × D)} {d : D} (h1 : O.sb C c = some true) (h2 : i < δ.length) (h3 : h C fs (δ.set i none) S = .rt d S) (k : Pr d S) : XR (catchL O ((c, i, h) :: cl) C fs δ S) Pn Pr Y := by
  unfold catchL
  rw [h1]
  simp only [h2, if_true, h3, xr_rt]
  exact k
/-- not caught by the first clause -/
theorem x_skip {O : Orc} {cl : List Cl} {c C : Addr} {i : Nat} {h : HSt} {fs : List (Str × D)} (h1 : O.sb C c = some false) (k : XR (catchL O cl C fs δ S) Pn Pr Y) : XR (catchL O ((c, i, h) :: cl) C fs δ S) Pn Pr Y := by
  unfold catchL
  rw [h1]
  exact k

/-! ### expressions -/
@[simp] theorem xe_var {i : Nat} : XSat (eVar i δ S) P X = (match δ[i]? with | some (some d) => P d S | _ => False) := by
  unfold eVar
  cases δ[i]? with
  | none => rfl
  | some o => cases o <;> rfl
@[simp] theorem xe_c {d : D} : XSat (eC d δ S) P X = P d S := (rfl)
@[simp] theorem xe_op1 {g : G1} {a : PEx} : XSat (eOp1 g a δ S) P X = XSat (a δ S) (fun x S1 => SatO (g x S1) P) X := by unfold eOp1; rw [xsat_bind]; simp only [xsat_ofO]
@[simp] theorem xe_op2 {g : G2} {a b : PEx} : XSat (eOp2 g a b δ S) P X = XSat (a δ S) (fun x S1 => XSat (b δ S1) (fun y S2 => SatO (g x y S2) P) X) X := by unfold eOp2; simp only [xsat_bind, xsat_ofO]
@[simp] theorem xe_if {t : PTs'} {a b : PEx} : XSat (eIf t a b δ S) P X = XSat (t δ S) (fun c S1 => if c = true then XSat (a δ S1) P X else XSat (b δ S1) P X) X := by
  unfold eIf
  rw [xsat_bind]
  congr 1
  funext c S1
  cases c <;> rfl
@[simp] theorem xa_nil {P : List D → SS → Prop} : XSat (aNil δ S) P X = P [] S := (rfl)
@[simp] theorem xa_cons {a : PEx} {r : PAs} {P : List D → SS → Prop} : XSat (aCons a r δ S) P X = XSat (a δ S) (fun x S1 => XSat (r δ S1) (fun xs S2 => P (x :: xs) S2) X) X := by unfold aCons; simp only [xsat_bind, xsat_ok]
theorem xe_tup {a : PAs} : XSat (eTup a δ S) P X = XSat (a δ S) (fun xs S1 => xs.length ≤ sizeLine ∧ P (.tup xs) S1) X := by
  unfold eTup
  rw [xsat_bind]
  congr 1
  funext xs S1
  split
  · rename_i h
    simp only [h, xsat_ok, true_and]
  · rename_i h
    exact propext ⟨fun z => z.elim, fun z => h z.1⟩
theorem xe_lst {a : PAs} : XSat (eLst a δ S) P X = XSat (a δ S) (fun xs S1 => xs.length ≤ sizeLine ∧ P (.ref S1.length) (S1 ++ [.lst xs])) X := by
  unfold eLst
  rw [xsat_bind]
  congr 1
  funext xs S1
  split
  · rename_i h
    simp only [h, xsat_ok, true_and]
  · rename_i h
    exact propext ⟨fun z => z.elim, fun z => h z.1⟩
@[simp] theorem xe_cb {g : GL} {a : PAs} : XSat (eCB g a δ S) P X = XSat (a δ S) (fun xs S1 => SatO (g xs S1) P) X := by unfold eCB; simp only [xsat_bind, xsat_ofO]
theorem xe_call {f : Fn} {n : Nat} {a : PAs} : XSat (eCall f n a δ S) P X = XSat (a δ S) (fun xs S1 => xs.length = n ∧ XSat (f xs S1) P X) X := by
  unfold eCall
  rw [xsat_bind]
  congr 1
  funext xs S1
  split
  · rename_i h
    simp only [h, true_and]
  · rename_i h
    exact propext ⟨fun z => z.elim, fun z => h z.1⟩
@[simp] theorem xe_and {a b : PEx} : XSat (eAnd a b δ S) P X = XSat (a δ S) (fun x S1 => (match truD x S1 with | some c => if c = true then XSat (b δ S1) P X else P x S1 | none => False)) X := by
  unfold eAnd
  simp only [xsat_bind, xsat_ofT]
  congr 1
  funext x S1
  cases truD x S1 with
  | none => rfl
  | some c => cases c <;> rfl
@[simp] theorem xe_or {a b : PEx} : XSat (eOr a b δ S) P X = XSat (a δ S) (fun x S1 => (match truD x S1 with | some c => if c = true then P x S1 else XSat (b δ S1) P X | none => False)) X := by
  unfold eOr
  simp only [xsat_bind, xsat_ofT]
  congr 1
  funext x S1
  cases truD x S1 with
  | none => rfl
  | some c => cases c <;> rfl
@[simp] theorem xe_chain {g g' : G2} {a b c : PEx} : XSat (eChain g g' a b c δ S) P X = XSat (a δ S) (fun x S1 => XSat (b δ S1) (fun y S2 => SatO (g x y S2) fun z S3 => (match boolOf z with
  | some k => if k = true then XSat (c δ S3) (fun z' S5 => SatO (g' y z' S5) P) X else P (.bl false) S3
  | none => False)) X) X := by
  unfold eChain
  simp only [xsat_bind, xsat_ofT, xsat_ofO]
  congr 1
  funext x S1
  congr 1
  funext y S2
  cases g x y S2 with
  | none => rfl
  | some p =>
    simp only [sato_some]
    cases boolOf p.1 with
    | none => rfl
    | some k =>
      cases k
      · rfl
      · simp only [if_true, xsat_bind, xsat_ofO]
@[simp] theorem xt_tru {a : PEx} {P : Bool → SS → Prop} : XSat (tTru a δ S) P X = XSat (a δ S) (fun x S1 => (match truD x S1 with | some c => P c S1 | none => False)) X := by
  unfold tTru
  simp only [xsat_bind, xsat_ofT]
@[simp] theorem xt_val {a : PEx} {P : Bool → SS → Prop} : XSat (tVal a δ S) P X = XSat (a δ S) (fun x S1 => (match boolOf x with | some c => P c S1 | none => False)) X := by
  unfold tVal
  simp only [xsat_bind, xsat_ofT]
@[simp] theorem xt_not {t : PTs'} {P : Bool → SS → Prop} : XSat (tNot' t δ S) P X = XSat (t δ S) (fun c S1 => P (!c) S1) X := by unfold tNot'; simp only [xsat_bind, xsat_ok]
@[simp] theorem xt_and {t u : PTs'} {P : Bool → SS → Prop} : XSat (tAnd' t u δ S) P X = XSat (t δ S) (fun c S1 => if c = true then XSat (u δ S1) P X else P false S1) X := by
  unfold tAnd'
  rw [xsat_bind]
  congr 1
  funext c S1
  cases c <;> rfl
@[simp] theorem xt_or {t u : PTs'} {P : Bool → SS → Prop} : XSat (tOr' t u δ S) P X = XSat (t δ S) (fun c S1 => if c = true then P true S1 else XSat (u δ S1) P X) X := by
  unfold tOr'
  rw [xsat_bind]
  congr 1
  funext c S1
  cases c <;> rfl
@[simp] theorem xt_if {t a b : PTs'} {P : Bool → SS → Prop} : XSat (tIf' t a b δ S) P X = XSat (t δ S) (fun c S1 => if c = true then XSat (a δ S1) P X else XSat (b δ S1) P X) X := by
  unfold tIf'
  rw [xsat_bind]
  congr 1
  funext c S1
  cases c <;> rfl
@[simp] theorem xt_yes {P : Bool → SS → Prop} : XSat (tYes' δ S) P X = P true S := (rfl)
theorem xe_mt {m : Mi} {o : PEx} {a : PAs} : XSat (eMt m o a δ S) P X = XSat (o δ S) (fun x S1 => isTy m.ty x S1 = true ∧ XSat (a δ S1) (fun xs S2 => SatO (m.g x xs S2) P) X) X := by
  unfold eMt
  rw [xsat_bind]
  congr 1
  funext x S1
  split
  · rename_i h
    simp only [h, xsat_bind, xsat_ofO, true_and]
  · rename_i h
    simp only [h, false_and, xsat_bad, Bool.false_eq_true]
@[simp] theorem xo_none {P : Option Int → SS → Prop} : XSat (oNone δ S) P X = P none S := (rfl)
@[simp] theorem xo_some {a : PEx} {P : Option Int → SS → Prop} : XSat (oSome a δ S) P X = XSat (a δ S) (fun x S1 => (match intOf x with | some i => P (some i) S1 | none => False)) X := by
  unfold oSome
  rw [xsat_bind]
  congr 1
  funext x S1
  cases intOf x <;> rfl
@[simp] theorem xe_sl {a : PEx} {lo hi : PO'} : XSat (eSl a lo hi δ S) P X = XSat (a δ S) (fun x S1 => XSat (lo δ S1) (fun l S2 => XSat (hi δ S2) (fun u S3 => SatO (slD l u x S3) P) X) X) X := by unfold eSl; simp only [xsat_bind, xsat_ofO]
@[simp] theorem xit_val {a : PEx} {P : IT → SS → Prop} : XSat (iVal a δ S) P X = XSat (a δ S) (fun x S1 => (match iterD x S1 with | some it => P it S1 | none => False)) X := by
  unfold iVal
  rw [xsat_bind]
  congr 1
  funext x S1
  cases iterD x S1 <;> rfl
@[simp] theorem xit_on {g : List D → SS → Option IT} {a : PAs} {P : IT → SS → Prop} : XSat (iOn g a δ S) P X = XSat (a δ S) (fun xs S1 => (match g xs S1 with | some it => P it S1 | none => False)) X := by
  unfold iOn
  rw [xsat_bind]
  congr 1
  funext x S1
  cases g x S1 <;> rfl
theorem xe_tup1 {a0 : PEx} : XSat (eTup (aCons a0 aNil) δ S) P X = XSat (a0 δ S) (fun x0 S1 => P (.tup [x0]) S1) X := by
  rw [xe_tup]
  simp only [xa_cons, xa_nil, List.length_cons, List.length_nil, Nat.reduceAdd, Nat.zero_add, le_size (show 1 ≤ 16777216 by decide), true_and]
theorem xe_tup2 {a0 a1 : PEx} : XSat (eTup (aCons a0 (aCons a1 aNil)) δ S) P X = XSat (a0 δ S) (fun x0 S1 => XSat (a1 δ S1) (fun x1 S2 => P (.tup [x0, x1]) S2) X) X := by
  rw [xe_tup]
  simp only [xa_cons, xa_nil, List.length_cons, List.length_nil, Nat.reduceAdd, Nat.zero_add, le_size (show 2 ≤ 16777216 by decide), true_and]
theorem xe_tup3 {a0 a1 a2 : PEx} : XSat (eTup (aCons a0 (aCons a1 (aCons a2 aNil))) δ S) P X = XSat (a0 δ S) (fun x0 S1 => XSat (a1 δ S1) (fun x1 S2 => XSat (a2 δ S2) (fun x2 S3 => P (.tup [x0, x1, x2]) S3) X) X) X := by
  rw [xe_tup]
  simp only [xa_cons, xa_nil, List.length_cons, List.length_nil, Nat.reduceAdd, Nat.zero_add, le_size (show 3 ≤ 16777216 by decide), true_and]
theorem xe_tup4 {a0 a1 a2 a3 : PEx} : XSat (eTup (aCons a0 (aCons a1 (aCons a2 (aCons a3 aNil)))) δ S) P X = XSat (a0 δ S) (fun x0 S1 => XSat (a1 δ S1) (fun x1 S2 => XSat (a2 δ S2) (fun x2 S3 => XSat (a3 δ S3) (fun x3 S4 => P (.tup [x0, x1, x2, x3]) S4) X) X) X) X := by
  rw [xe_tup]
  simp only [xa_cons, xa_nil, List.length_cons, List.length_nil, Nat.reduceAdd, Nat.zero_add, le_size (show 4 ≤ 16777216 by decide), true_and]
theorem xe_tup5 {a0 a1 a2 a3 a4 : PEx} : XSat (eTup (aCons a0 (aCons a1 (aCons a2 (aCons a3 (aCons a4 aNil))))) δ S) P X = XSat (a0 δ S) (fun x0 S1 => XSat (a1 δ S1) (fun x1 S2 => XSat (a2 δ S2) (fun x2 S3 => XSat (a3 δ S3) (fun x3 S4 => XSat (a4 δ S4) (fun x4 S5 => P (.tup [x0, x1, x2, x3, x4]) S5) X) X) X) X) X := by
  rw [xe_tup]
  simp only [xa_cons, xa_nil, List.length_cons, List.length_nil, Nat.reduceAdd, Nat.zero_add, le_size (show 5 ≤ 16777216 by decide), true_and]
theorem xe_tup6 {a0 a1 a2 a3 a4 a5 : PEx} : XSat (eTup (aCons a0 (aCons a1 (aCons a2 (aCons a3 (aCons a4 (aCons a5 aNil)))))) δ S) P X = XSat (a0 δ S) (fun x0 S1 => XSat (a1 δ S1) (fun x1 S2 => XSat (a2 δ S2) (fun x2 S3 => XSat (a3 δ S3) (fun x3 S4 => XSat (a4 δ S4) (fun x4 S5 => XSat (a5 δ S5) (fun x5 S6 => P (.tup [x0, x1, x2, x3, x4, x5]) S6) X) X) X) X) X) X := by
  rw [xe_tup]
  simp only [xa_cons, xa_nil, List.length_cons, List.length_nil, Nat.reduceAdd, Nat.zero_add, le_size (show 6 ≤ 16777216 by decide), true_and]
theorem xe_lst0 : XSat (eLst aNil δ S) P X = P (.ref S.length) (S ++ [.lst []]) := by
  rw [xe_lst]
  simp only [xa_cons, xa_nil, List.length_cons, List.length_nil, Nat.reduceAdd, Nat.zero_add, le_size (show 0 ≤ 16777216 by decide), true_and]
theorem xe_lst1 {a0 : PEx} : XSat (eLst (aCons a0 aNil) δ S) P X = XSat (a0 δ S) (fun x0 S1 => P (.ref S1.length) (S1 ++ [.lst [x0]])) X := by
  rw [xe_lst]
  simp only [xa_cons, xa_nil, List.length_cons, List.length_nil, Nat.reduceAdd, Nat.zero_add, le_size (show 1 ≤ 16777216 by decide), true_and]
theorem xe_lst2 {a0 a1 : PEx} : XSat (eLst (aCons a0 (aCons a1 aNil)) δ S) P X = XSat (a0 δ S) (fun x0 S1 => XSat (a1 δ S1) (fun x1 S2 => P (.ref S2.length) (S2 ++ [.lst [x0, x1]])) X) X := by
  rw [xe_lst]
  simp only [xa_cons, xa_nil, List.length_cons, List.length_nil, Nat.reduceAdd, Nat.zero_add, le_size (show 2 ≤ 16777216 by decide), true_and]
theorem xe_lst3 {a0 a1 a2 : PEx} : XSat (eLst (aCons a0 (aCons a1 (aCons a2 aNil))) δ S) P X = XSat (a0 δ S) (fun x0 S1 => XSat (a1 δ S1) (fun x1 S2 => XSat (a2 δ S2) (fun x2 S3 => P (.ref S3.length) (S3 ++ [.lst [x0, x1, x2]])) X) X) X := by
  rw [xe_lst]
  simp only [xa_cons, xa_nil, List.length_cons, List.length_nil, Nat.reduceAdd, Nat.zero_add, le_size (show 3 ≤ 16777216 by decide), true_and]
theorem xe_lst4 {a0 a1 a2 a3 : PEx} : XSat (eLst (aCons a0 (aCons a1 (aCons a2 (aCons a3 aNil)))) δ S) P X = XSat (a0 δ S) (fun x0 S1 => XSat (a1 δ S1) (fun x1 S2 => XSat (a2 δ S2) (fun x2 S3 => XSat (a3 δ S3) (fun x3 S4 => P (.ref S4.length) (S4 ++ [.lst [x0, x1, x2, x3]])) X) X) X) X := by
  rw [xe_lst]
  simp only [xa_cons, xa_nil, List.length_cons, List.length_nil, Nat.reduceAdd, Nat.zero_add, le_size (show 4 ≤ 16777216 by decide), true_and]
theorem xe_lst5 {a0 a1 a2 a3 a4 : PEx} : XSat (eLst (aCons a0 (aCons a1 (aCons a2 (aCons a3 (aCons a4 aNil))))) δ S) P X = XSat (a0 δ S) (fun x0 S1 => XSat (a1 δ S1) (fun x1 S2 => XSat (a2 δ S2) (fun x2 S3 => XSat (a3 δ S3) (fun x3 S4 => XSat (a4 δ S4) (fun x4 S5 => P (.ref S5.length) (S5 ++ [.lst [x0, x1, x2, x3, x4]])) X) X) X) X) X := by
  rw [xe_lst]
  simp only [xa_cons, xa_nil, List.length_cons, List.length_nil, Nat.reduceAdd, Nat.zero_add, le_size (show 5 ≤ 16777216 by decide), true_and]
theorem xe_lst6 {a0 a1 a2 a3 a4 a5 : PEx} : XSat (eLst (aCons a0 (aCons a1 (aCons a2 (aCons a3 (aCons a4 (aCons a5 aNil)))))) δ S) P X = XSat (a0 δ S) (fun x0 S1 => XSat (a1 δ S1) (fun x1 S2 => XSat (a2 δ S2) (fun x2 S3 => XSat (a3 δ S3) (fun x3 S4 => XSat (a4 δ S4) (fun x4 S5 => XSat (a5 δ S5) (fun x5 S6 => P (.ref S6.length) (S6 ++ [.lst [x0, x1, x2, x3, x4, x5]])) X) X) X) X) X) X := by
  rw [xe_lst]
  simp only [xa_cons, xa_nil, List.length_cons, List.length_nil, Nat.reduceAdd, Nat.zero_add, le_size (show 6 ≤ 16777216 by decide), true_and]
theorem xe_lst7 {a0 a1 a2 a3 a4 a5 a6 : PEx} : XSat (eLst (aCons a0 (aCons a1 (aCons a2 (aCons a3 (aCons a4 (aCons a5 (aCons a6 aNil))))))) δ S) P X = XSat (a0 δ S) (fun x0 S1 => XSat (a1 δ S1) (fun x1 S2 => XSat (a2 δ S2) (fun x2 S3 => XSat (a3 δ S3) (fun x3 S4 => XSat (a4 δ S4) (fun x4 S5 => XSat (a5 δ S5) (fun x5 S6 => XSat (a6 δ S6) (fun x6 S7 => P (.ref S7.length) (S7 ++ [.lst [x0, x1, x2, x3, x4, x5, x6]])) X) X) X) X) X) X) X := by
  rw [xe_lst]
  simp only [xa_cons, xa_nil, List.length_cons, List.length_nil, Nat.reduceAdd, Nat.zero_add, le_size (show 7 ≤ 16777216 by decide), true_and]
theorem xe_lst8 {a0 a1 a2 a3 a4 a5 a6 a7 : PEx} : XSat (eLst (aCons a0 (aCons a1 (aCons a2 (aCons a3 (aCons a4 (aCons a5 (aCons a6 (aCons a7 aNil)))))))) δ S) P X = XSat (a0 δ S) (fun x0 S1 => XSat (a1 δ S1) (fun x1 S2 => XSat (a2 δ S2) (fun x2 S3 => XSat (a3 δ S3) (fun x3 S4 => XSat (a4 δ S4) (fun x4 S5 => XSat (a5 δ S5) (fun x5 S6 => XSat (a6 δ S6) (fun x6 S7 => XSat (a7 δ S7) (fun x7 S8 => P (.ref S8.length) (S8 ++ [.lst [x0, x1, x2, x3, x4, x5, x6, x7]])) X) X) X) X) X) X) X) X := by
  rw [xe_lst]
  simp only [xa_cons, xa_nil, List.length_cons, List.length_nil, Nat.reduceAdd, Nat.zero_add, le_size (show 8 ≤ 16777216 by decide), true_and]
theorem xe_lst9 {a0 a1 a2 a3 a4 a5 a6 a7 a8 : PEx} : XSat (eLst (aCons a0 (aCons a1 (aCons a2 (aCons a3 (aCons a4 (aCons a5 (aCons a6 (aCons a7 (aCons a8 aNil))))))))) δ S) P X = XSat (a0 δ S) (fun x0 S1 => XSat (a1 δ S1) (fun x1 S2 => XSat (a2 δ S2) (fun x2 S3 => XSat (a3 δ S3) (fun x3 S4 => XSat (a4 δ S4) (fun x4 S5 => XSat (a5 δ S5) (fun x5 S6 => XSat (a6 δ S6) (fun x6 S7 => XSat (a7 δ S7) (fun x7 S8 => XSat (a8 δ S8) (fun x8 S9 => P (.ref S9.length) (S9 ++ [.lst [x0, x1, x2, x3, x4, x5, x6, x7, x8]])) X) X) X) X) X) X) X) X) X := by
  rw [xe_lst]
  simp only [xa_cons, xa_nil, List.length_cons, List.length_nil, Nat.reduceAdd, Nat.zero_add, le_size (show 9 ≤ 16777216 by decide), true_and]
theorem xe_lst10 {a0 a1 a2 a3 a4 a5 a6 a7 a8 a9 : PEx} : XSat (eLst (aCons a0 (aCons a1 (aCons a2 (aCons a3 (aCons a4 (aCons a5 (aCons a6 (aCons a7 (aCons a8 (aCons a9 aNil)))))))))) δ S) P X = XSat (a0 δ S) (fun x0 S1 => XSat (a1 δ S1) (fun x1 S2 => XSat (a2 δ S2) (fun x2 S3 => XSat (a3 δ S3) (fun x3 S4 => XSat (a4 δ S4) (fun x4 S5 => XSat (a5 δ S5) (fun x5 S6 => XSat (a6 δ S6) (fun x6 S7 => XSat (a7 δ S7) (fun x7 S8 => XSat (a8 δ S8) (fun x8 S9 => XSat (a9 δ S9) (fun x9 S10 => P (.ref S10.length) (S10 ++ [.lst [x0, x1, x2, x3, x4, x5, x6, x7, x8, x9]])) X) X) X) X) X) X) X) X) X) X := by
  rw [xe_lst]
  simp only [xa_cons, xa_nil, List.length_cons, List.length_nil, Nat.reduceAdd, Nat.zero_add, le_size (show 10 ≤ 16777216 by decide), true_and]
theorem xe_lst11 {a0 a1 a2 a3 a4 a5 a6 a7 a8 a9 a10 : PEx} : XSat (eLst (aCons a0 (aCons a1 (aCons a2 (aCons a3 (aCons a4 (aCons a5 (aCons a6 (aCons a7 (aCons a8 (aCons a9 (aCons a10 aNil))))))))))) δ S) P X = XSat (a0 δ S) (fun x0 S1 => XSat (a1 δ S1) (fun x1 S2 => XSat (a2 δ S2) (fun x2 S3 => XSat (a3 δ S3) (fun x3 S4 => XSat (a4 δ S4) (fun x4 S5 => XSat (a5 δ S5) (fun x5 S6 => XSat (a6 δ S6) (fun x6 S7 => XSat (a7 δ S7) (fun x7 S8 => XSat (a8 δ S8) (fun x8 S9 => XSat (a9 δ S9) (fun x9 S10 => XSat (a10 δ S10) (fun x10 S11 => P (.ref S11.length) (S11 ++ [.lst [x0, x1, x2, x3, x4, x5, x6, x7, x8, x9, x10]])) X) X) X) X) X) X) X) X) X) X) X := by
  rw [xe_lst]
  simp only [xa_cons, xa_nil, List.length_cons, List.length_nil, Nat.reduceAdd, Nat.zero_add, le_size (show 11 ≤ 16777216 by decide), true_and]
theorem xe_lst12 {a0 a1 a2 a3 a4 a5 a6 a7 a8 a9 a10 a11 : PEx} : XSat (eLst (aCons a0 (aCons a1 (aCons a2 (aCons a3 (aCons a4 (aCons a5 (aCons a6 (aCons a7 (aCons a8 (aCons a9 (aCons a10 (aCons a11 aNil)))))))))))) δ S) P X = XSat (a0 δ S) (fun x0 S1 => XSat (a1 δ S1) (fun x1 S2 => XSat (a2 δ S2) (fun x2 S3 => XSat (a3 δ S3) (fun x3 S4 => XSat (a4 δ S4) (fun x4 S5 => XSat (a5 δ S5) (fun x5 S6 => XSat (a6 δ S6) (fun x6 S7 => XSat (a7 δ S7) (fun x7 S8 => XSat (a8 δ S8) (fun x8 S9 => XSat (a9 δ S9) (fun x9 S10 => XSat (a10 δ S10) (fun x10 S11 => XSat (a11 δ S11) (fun x11 S12 => P (.ref S12.length) (S12 ++ [.lst [x0, x1, x2, x3, x4, x5, x6, x7, x8, x9, x10, x11]])) X) X) X) X) X) X) X) X) X) X) X) X := by
  rw [xe_lst]
  simp only [xa_cons, xa_nil, List.length_cons, List.length_nil, Nat.reduceAdd, Nat.zero_add, le_size (show 12 ≤ 16777216 by decide), true_and]
theorem xe_lst13 {a0 a1 a2 a3 a4 a5 a6 a7 a8 a9 a10 a11 a12 : PEx} : XSat (eLst (aCons a0 (aCons a1 (aCons a2 (aCons a3 (aCons a4 (aCons a5 (aCons a6 (aCons a7 (aCons a8 (aCons a9 (aCons a10 (aCons a11 (aCons a12 aNil))))))))))))) δ S) P X = XSat (a0 δ S) (fun x0 S1 => XSat (a1 δ S1) (fun x1 S2 => XSat (a2 δ S2) (fun x2 S3 => XSat (a3 δ S3) (fun x3 S4 => XSat (a4 δ S4) (fun x4 S5 => XSat (a5 δ S5) (fun x5 S6 => XSat (a6 δ S6) (fun x6 S7 => XSat (a7 δ S7) (fun x7 S8 => XSat (a8 δ S8) (fun x8 S9 => XSat (a9 δ S9) (fun x9 S10 => XSat (a10 δ S10) (fun x10 S11 => XSat (a11 δ S11) (fun x11 S12 => XSat (a12 δ S12) (fun x12 S13 => P (.ref S13.length) (S13 ++ [.lst [x0, x1, x2, x3, x4, x5, x6, x7, x8, x9, x10, x11, x12]])) X) X) X) X) X) X) X) X) X) X) X) X) X := by
  rw [xe_lst]
  simp only [xa_cons, xa_nil, List.length_cons, List.length_nil, Nat.reduceAdd, Nat.zero_add, le_size (show 13 ≤ 16777216 by decide), true_and]
theorem xe_lst14 {a0 a1 a2 a3 a4 a5 a6 a7 a8 a9 a10 a11 a12 a13 : PEx} : XSat (eLst (aCons a0 (aCons a1 (aCons a2 (aCons a3 (aCons a4 (aCons a5 (aCons a6 (aCons a7 (aCons a8 (aCons a9 (aCons a10 (aCons a11 (aCons a12 (aCons a13 aNil)))))))))))))) δ S) P X = XSat (a0 δ S) (fun x0 S1 => XSat (a1 δ S1) (fun x1 S2 => XSat (a2 δ S2) (fun x2 S3 => XSat (a3 δ S3) (fun x3 S4 => XSat (a4 δ S4) (fun x4 S5 => XSat (a5 δ S5) (fun x5 S6 => XSat (a6 δ S6) (fun x6 S7 => XSat (a7 δ S7) (fun x7 S8 => XSat (a8 δ S8) (fun x8 S9 => XSat (a9 δ S9) (fun x9 S10 => XSat (a10 δ S10) (fun x10 S11 => XSat (a11 δ S11) (fun x11 S12 => XSat (a12 δ S12) (fun x12 S13 => XSat (a13 δ S13) (fun x13 S14 => P (.ref S14.length) (S14 ++ [.lst [x0, x1, x2, x3, x4, x5, x6, x7, x8, x9, x10, x11, x12, x13]])) X) X) X) X) X) X) X) X) X) X) X) X) X) X := by
  rw [xe_lst]
  simp only [xa_cons, xa_nil, List.length_cons, List.length_nil, Nat.reduceAdd, Nat.zero_add, le_size (show 14 ≤ 16777216 by decide), true_and]
theorem xe_lst15 {a0 a1 a2 a3 a4 a5 a6 a7 a8 a9 a10 a11 a12 a13 a14 : PEx} : XSat (eLst (aCons a0 (aCons a1 (aCons a2 (aCons a3 (aCons a4 (aCons a5 (aCons a6 (aCons a7 (aCons a8 (aCons a9 (aCons a10 (aCons a11 (aCons a12 (aCons a13 (aCons a14 aNil))))))))))))))) δ S) P X = XSat (a0 δ S) (fun x0 S1 => XSat (a1 δ S1) (fun x1 S2 => XSat (a2 δ S2) (fun x2 S3 => XSat (a3 δ S3) (fun x3 S4 => XSat (a4 δ S4) (fun x4 S5 => XSat (a5 δ S5) (fun x5 S6 => XSat (a6 δ S6) (fun x6 S7 => XSat (a7 δ S7) (fun x7 S8 => XSat (a8 δ S8) (fun x8 S9 => XSat (a9 δ S9) (fun x9 S10 => XSat (a10 δ S10) (fun x10 S11 => XSat (a11 δ S11) (fun x11 S12 => XSat (a12 δ S12) (fun x12 S13 => XSat (a13 δ S13) (fun x13 S14 => XSat (a14 δ S14) (fun x14 S15 => P (.ref S15.length) (S15 ++ [.lst [x0, x1, x2, x3, x4, x5, x6, x7, x8, x9, x10, x11, x12, x13, x14]])) X) X) X) X) X) X) X) X) X) X) X) X) X) X) X := by
  rw [xe_lst]
  simp only [xa_cons, xa_nil, List.length_cons, List.length_nil, Nat.reduceAdd, Nat.zero_add, le_size (show 15 ≤ 16777216 by decide), true_and]
theorem xe_lst16 {a0 a1 a2 a3 a4 a5 a6 a7 a8 a9 a10 a11 a12 a13 a14 a15 : PEx} : XSat (eLst (aCons a0 (aCons a1 (aCons a2 (aCons a3 (aCons a4 (aCons a5 (aCons a6 (aCons a7 (aCons a8 (aCons a9 (aCons a10 (aCons a11 (aCons a12 (aCons a13 (aCons a14 (aCons a15 aNil)))))))))))))))) δ S) P X = XSat (a0 δ S) (fun x0 S1 => XSat (a1 δ S1) (fun x1 S2 => XSat (a2 δ S2) (fun x2 S3 => XSat (a3 δ S3) (fun x3 S4 => XSat (a4 δ S4) (fun x4 S5 => XSat (a5 δ S5) (fun x5 S6 => XSat (a6 δ S6) (fun x6 S7 => XSat (a7 δ S7) (fun x7 S8 => XSat (a8 δ S8) (fun x8 S9 => XSat (a9 δ S9) (fun x9 S10 => XSat (a10 δ S10) (fun x10 S11 => XSat (a11 δ S11) (fun x11 S12 => XSat (a12 δ S12) (fun x12 S13 => XSat (a13 δ S13) (fun x13 S14 => XSat (a14 δ S14) (fun x14 S15 => XSat (a15 δ S15) (fun x15 S16 => P (.ref S16.length) (S16 ++ [.lst [x0, x1, x2, x3, x4, x5, x6, x7, x8, x9, x10, x11, x12, x13, x14, x15]])) X) X) X) X) X) X) X) X) X) X) X) X) X) X) X) X := by
  rw [xe_lst]
  simp only [xa_cons, xa_nil, List.length_cons, List.length_nil, Nat.reduceAdd, Nat.zero_add, le_size (show 16 ≤ 16777216 by decide), true_and]
/-! ### loops -/
theorem xforL_inv {gd : Gd} {ct : CT} {body : PSt} (I : Nat → Sl → SS → Prop) : ∀ (l : List D) (i : Nat) (δ : Sl) (S : SS), I i δ S →
    (∀ j d δ S, l[j]? = some d → I (i + j) δ S → gOk gd S ∧ ∃ δ1, bindC ct d δ = some δ1 ∧ XR (body δ1 S) (I (i + j + 1)) Pr Y) → (∀ δ S, I (i + l.length) δ S → gOk gd S ∧ Pn δ S) → XR (forL gd ct body l δ S) Pn Pr Y
  | [], i, δ, S, h0, hs, he => by
    obtain ⟨h1, h2⟩ := he δ S h0
    unfold forL
    rw [if_pos h1]
    exact h2
  | d :: l, i, δ, S, h0, hs, he => by
    obtain ⟨h1, δ1, h2, h3⟩ := hs 0 d δ S rfl h0
    unfold forL
    rw [if_pos h1, h2]
    have step := xforL_inv (gd := gd) (ct := ct) (body := body) I l (i + 1)
    have hs' : ∀ j d δ S, l[j]? = some d → I (i + 1 + j) δ S → gOk gd S ∧ ∃ δ1, bindC ct d δ = some δ1 ∧ XR (body δ1 S) (I (i + 1 + j + 1)) Pr Y := fun j d δ S hj hI => by
      have e : i + 1 + j = i + (j + 1) := by omega
      rw [e] at hI ⊢
      exact hs (j + 1) d δ S hj hI
    have e2 : i + 1 + l.length = i + (d :: l).length := by rw [List.length_cons]; omega
    have he' : ∀ δ S, I (i + 1 + l.length) δ S → gOk gd S ∧ Pn δ S := fun δ S hI => he δ S (e2 ▸ hI)
    show XR (match body δ1 S with
      | .nx δ' S' => forL gd ct body l δ' S'
      | .ct δ' S' => forL gd ct body l δ' S'
      | .bk δ' S' => .nx δ' S'
      | x => x) Pn Pr Y
    cases hb : body δ1 S with
    | nx δ' S' => rw [hb] at h3; exact step δ' S' h3 hs' he'
    | rt d S' => rw [hb] at h3; exact h3
    | exc δ' c f S' => rw [hb] at h3; exact h3
    | _ => rw [hb] at h3; exact h3.elim
theorem x_for {it : PIt} {ct : CT} {body : PSt} (h : XSat (it δ S) (fun x S1 => ∃ I : Nat → Sl → SS → Prop, I 0 δ S1 ∧ (∀ j d δ S, x.1[j]? = some d → I j δ S → gOk x.2 S ∧ ∃ δ1, bindC ct d δ = some δ1 ∧ XR (body δ1 S) (I (j + 1)) Pr Y) ∧ (∀ δ S, I x.1.length δ S → gOk x.2 S ∧ Pn δ S)) (Y δ)) :
    XR (sFor it ct body δ S) Pn Pr Y := by
  unfold sFor
  rw [xr_to]
  refine h.mono (fun x S1 ⟨I, h0, hs, he⟩ => ?_) (fun _ _ _ h => h)
  exact xforL_inv I x.1 0 δ S1 h0 (by simpa using hs) (by simpa using he)
theorem x_while {t : PTs'} {b : PSt} (I : Nat → Sl → SS → Prop) (hs : ∀ m δ S, I m δ S → XSat (t δ S) (fun c S1 => if c = true then XR (b δ S1) (fun δ' S' => ∃ m', m' < m ∧ I m' δ' S') Pr Y else Pn δ S1) (Y δ)) :
    ∀ (m : Nat) (δ : Sl) (S : SS), I m δ S → XR (sWhile t b δ S) Pn Pr Y := by
  intro m
  induction m using Nat.strongRecOn with
  | ind m ih =>
    intro δ S h
    rw [sWhile_eq, xr_to]
    refine (hs m δ S h).mono (fun c S1 hc => ?_) (fun _ _ _ h => h)
    cases c with
    | false => exact hc
    | true =>
      simp only [if_true] at hc ⊢
      cases hb : b δ S1 with
      | nx δ' S' =>
        rw [hb] at hc
        obtain ⟨m', hm, hI⟩ := hc
        exact ih m' hm δ' S' hI
      | rt d S' => rw [hb] at hc; exact hc
      | exc δ' c f S' => rw [hb] at hc; exact hc
      | _ => rw [hb] at hc; exact hc.elim
/-- all of a tuple's entries, tested one by one and refused by the first bad one -/
theorem x_list {r : R D} {P : D → SS → Prop} (h : Sat r P) : XSat r P X := h.x
end
end DL
set_option Elab.async false
set_option linter.all false
set_option maxRecDepth 100000
set_option maxHeartbeats 2000000
/-! DSame: values that are alike in == and in repr. -/
namespace DL
open PySem L2
mutual
def niceD : D → Prop
  | .non | .bl _ => True
  | .int i => i.natAbs < 2 ^ 1900
  | .str x => PyData.strOk x = true ∧ (reprText x).length ≤ 600
  | .tup ds => niceDs ds
  | _ => False
def niceDs : List D → Prop
  | [] => True
  | d :: ds => niceD d ∧ niceDs ds
end
mutual
/-- how long its text can be -/
def wD : D → Nat
  | .tup ds => wDs ds + 3
  | _ => 601
def wDs : List D → Nat
  | [] => 0
  | d :: ds => wD d + 2 + wDs ds
end
mutual
def dpD : D → Nat
  | .tup ds => dpDs ds + 1
  | _ => 0
def dpDs : List D → Nat
  | [] => 0
  | d :: ds => max (dpD d) (dpDs ds)
end
theorem tupleText_len (ts : List Str) : (tupleText ts).length ≤ piled ts + 3 := by
  unfold tupleText
  rw [strLen_append, strLen_append]
  have e1 : ((("(" : String) : Str)).length = 1 := rfl
  have e3 : (((if ts.length == 1 then ",)" else ")" : String) : Str)).length ≤ 2 := by split <;> decide
  rw [e1]
  by_cases h : ts = []
  · subst h
    have : (Str.join ", " []).length = 0 := rfl
    omega
  · have := join_length_add ts h
    omega
mutual
theorem nice_ok : ∀ {d : D}, niceD d → ∃ p, (∀ f, pyI f d = some p) ∧ p.showable = true ∧ p.canLay0 = true ∧ p.depth ≤ dpD d ∧ p.shown.length ≤ wD d ∧ PyData.eqv p p = true
  | .non, _ => ⟨.none, fun _ => rfl, rfl, rfl, Nat.le_refl _, (by decide : (4 : Nat) ≤ 601), rfl⟩
  | .bl b, _ => ⟨.bool b, fun _ => rfl, rfl, rfl, Nat.le_refl _, by cases b <;> (show _ ≤ 601) <;> decide, by cases b <;> rfl⟩
  | .int i, h => by
    have h : i.natAbs < 2 ^ 1900 := h
    have e : (2 : Nat) ^ 1900 ≤ 10 ^ 600 := by decide +kernel
    refine ⟨.int i, fun _ => rfl, ?_, rfl, Nat.le_refl _, int_len (a := i) (k := 600) (by decide) (Nat.lt_of_lt_of_le h e), ?_⟩
    · show decide (i.natAbs.log2 < 1920) = true
      rw [decide_eq_true (log2_1920 h)]
    · show (i == i) = true
      simp
  | .str x, h => by
    have h : PyData.strOk x = true ∧ (reprText x).length ≤ 600 := h
    exact ⟨.str x, fun _ => rfl, rfl, h.1, Nat.le_refl _, Nat.le_trans h.2 (by decide : (600 : Nat) ≤ 601), by show (x == x) = true; simp⟩
  | .tup ds, h => by
    have h : niceDs ds := h
    obtain ⟨ps, h1, h2, h3, h4, h5, h6⟩ := nices_ok h
    refine ⟨.tuple ps, fun f => ?_, h2, h3, ?_, ?_, h6⟩
    · show (pysI f ds).map PyData.tuple = _
      rw [h1 f]
      rfl
    · show PyData.depthAll ps + 1 ≤ dpDs ds + 1
      omega
    · have := tupleText_len (PyData.shownAll ps)
      show (tupleText (PyData.shownAll ps)).length ≤ wDs ds + 3
      omega
  | .rls _, h => h.elim
  | .ref _, h => h.elim
  | .ty _, h => h.elim
  | .gl _, h => h.elim
theorem nices_ok : ∀ {ds : List D}, niceDs ds → ∃ ps, (∀ f, pysI f ds = some ps) ∧ PyData.showableAll ps = true ∧ PyData.canLayAll0 ps = true ∧ PyData.depthAll ps ≤ dpDs ds ∧ piled (PyData.shownAll ps) ≤ wDs ds ∧ PyData.eqvAll ps ps = true
  | [], _ => ⟨[], fun _ => rfl, rfl, rfl, Nat.le_refl _, Nat.le_refl _, rfl⟩
  | d :: ds, h => by
    have h : niceD d ∧ niceDs ds := h
    obtain ⟨p, a1, a2, a3, a4, a5, a6⟩ := nice_ok h.1
    obtain ⟨ps, h1, h2, h3, h4, h5, h6⟩ := nices_ok h.2
    refine ⟨p :: ps, fun f => ?_, ?_, ?_, ?_, ?_, ?_⟩
    · show (match pyI f d, pysI f ds with
        | some p, some ps => some (p :: ps)
        | _, _ => none) = _
      rw [a1 f, h1 f]
    · show (p.showable && PyData.showableAll ps) = true
      rw [a2, h2]; rfl
    · show (p.canLay0 && PyData.canLayAll0 ps) = true
      rw [a3, h3]; rfl
    · show max p.depth (PyData.depthAll ps) ≤ max (dpD d) (dpDs ds)
      omega
    · show piled (p.shown :: PyData.shownAll ps) ≤ wD d + 2 + wDs ds
      rw [piled_cons]
      omega
    · show (PyData.eqv p p && PyData.eqvAll ps ps) = true
      rw [a6, h6]; rfl
end
section
variable {S : SS} {P : D → SS → Prop} {d : D}
structure Nice (d : D) : Prop where
  n : niceD d
  dp : dpD d ≤ 60
  w : wD d ≤ 16777216
theorem nice_eq (h : Nice d) : SatO (cmpD .Eq d d S) P = P (.bl true) S := by
  obtain ⟨p, h1, h2, h3, h4, h5, h6⟩ := nice_ok h.n
  have hd := h.dp
  have sh : SeqAt.shaped p = true := by
    unfold SeqAt.shaped
    rw [h3, decide_eq_true (show p.depth ≤ 64 by omega)]
    rfl
  have hp : py S d = some p := h1 _
  cases d with
  | str x => simp
  | _ => rw [eq_any hp hp (fun x y h _ => by cases h) sh sh, h6]
theorem nice_ne (h : Nice d) : SatO (cmpD .NotEq d d S) P = P (.bl false) S := by
  obtain ⟨p, h1, h2, h3, h4, h5, h6⟩ := nice_ok h.n
  have hd := h.dp
  have sh : SeqAt.shaped p = true := by
    unfold SeqAt.shaped
    rw [h3, decide_eq_true (show p.depth ≤ 64 by omega)]
    rfl
  have hp : py S d = some p := h1 _
  cases d with
  | str x => simp
  | _ => rw [ne_any hp hp (fun x y h _ => by cases h) sh sh, h6]; rfl
theorem nice_repr (h : Nice d) (k : ∀ x, P (.str x) S) : SatO (one reprD [d] S) P := by
  obtain ⟨p, h1, h2, h3, h4, h5, h6⟩ := nice_ok h.n
  rw [repr_any (h1 _) ⟨h2, h3, by have := h.dp; omega, by have := h.w; rw [sizeLine_eq]; omega⟩]
  exact k _
theorem nice_repr2 (h : Nice d) : ∃ x, ∀ (S : SS) (P : D → SS → Prop), SatO (one reprD [d] S) P = P (.str x) S := by
  obtain ⟨p, h1, h2, h3, h4, h5, h6⟩ := nice_ok h.n
  exact ⟨p.shown, fun S P => repr_any (h1 _) ⟨h2, h3, by have := h.dp; omega, by have := h.w; rw [sizeLine_eq]; omega⟩⟩
theorem nice_int {i : Int} {n : Nat} (h : i.natAbs < 2 ^ n) (hn : n ≤ 1900) : niceD (.int i) := Nat.lt_of_lt_of_le h (Nat.pow_le_pow_right (by decide) hn)
theorem niceDs_iff {ds : List D} : niceDs ds ↔ ∀ d ∈ ds, niceD d := by
  induction ds with
  | nil => exact ⟨fun _ d h => by simp at h, fun _ => trivial⟩
  | cons x xs ih =>
    show niceD x ∧ niceDs xs ↔ _
    rw [ih]
    simp
end
end DL
set_option Elab.async false
set_option linter.all false
set_option maxRecDepth 100000
set_option maxHeartbeats 2000000
/-! DPlain2: values out of tuples alone. -/
namespace DL
open PySem L2
mutual
def aP : D → Bool
  | .non | .bl _ | .int _ | .str _ => true
  | .tup ds => decide (ds.length ≤ 100000) && aPs ds
  | _ => false
def aPs : List D → Bool
  | [] => true
  | d :: ds => aP d && aPs ds
end
theorem aPs_all : ∀ {ds : List D}, aPs ds = true → ∀ d ∈ ds, aP d = true
  | d :: ds, h, x, hx => by
    have h : (aP d && aPs ds) = true := h
    rw [Bool.and_eq_true] at h
    rcases List.mem_cons.mp hx with rfl | hx
    · exact h.1
    · exact aPs_all h.2 x hx
theorem aPs_of : ∀ {ds : List D}, (∀ d ∈ ds, aP d = true) → aPs ds = true
  | [], _ => rfl
  | d :: ds, h => by
    show (aP d && aPs ds) = true
    rw [h d (by simp), aPs_of fun x hx => h x (by simp [hx])]
    rfl
theorem aP_tup {ds : List D} (h : aP (.tup ds) = true) : ds.length ≤ 100000 ∧ ∀ d ∈ ds, aP d = true := by
  have h : (decide (ds.length ≤ 100000) && aPs ds) = true := h
  rw [Bool.and_eq_true, decide_eq_true_eq] at h
  exact ⟨h.1, aPs_all h.2⟩
theorem aP_of {ds : List D} (h : ds.length ≤ 100000) (h2 : ∀ d ∈ ds, aP d = true) : aP (.tup ds) = true := by
  show (decide (ds.length ≤ 100000) && aPs ds) = true
  rw [decide_eq_true h, aPs_of h2]
  rfl
end DL
set_option Elab.async false
set_option linter.all false
set_option maxRecDepth 100000
set_option maxHeartbeats 2000000
/-! DDrawX: lists whose entries are drawn. -/
namespace DL
open PySem L2
section
variable {S : SS} {P : D → SS → Prop}
/-- a list whose entries are drawn, each with at most c draws -/
theorem lc_draw {it : PIt} {ct : CT} {vs : List Nat} {el : PEx} {δ : Sl} {kd ka n c L : Nat} {Q : D → Prop}
    (hit : Sat (it δ S) fun x S1 => (∀ S', gOk x.2 S') ∧ Up ka S S1 ∧ DA S1 kd ka n ∧ x.1.length ≤ L) (hL : L ≤ 100000)
    (hel : ∀ (d : D) (S' : SS) (m : Nat), m ≤ n + c * L → Up ka S S' → DA S' kd ka m → ∃ δ1, bindC ct d (wipeD δ vs) = some δ1 ∧ ∀ P : D → SS → Prop, (∀ y S'', Q y → Up ka S' S'' → DA S'' kd ka (m + c) → P y S'') → Sat (el δ1 S') P)
    (k : ∀ (j : Nat) (ys : List D) (S' : SS), S'[j]? = some (.lst ys) → (∀ y ∈ ys, Q y) → ys.length ≤ L → Up ka S S' → DA S' kd ka (n + c * L) → P (.ref j) S') : Sat (eLc it ct vs tYes' el δ S) P := by
  refine e_lc (hit.mono fun x S1 hx => ?_)
  obtain ⟨hgd, hup, hda, hxl⟩ := hx
  have hka : ka < S1.length := by
    obtain ⟨_, _, _, _, h2, _⟩ := hda
    exact get_len h2
  refine ⟨fun j acc S' => S'[S1.length]? = some (.lst acc) ∧ (∀ y ∈ acc, Q y) ∧ acc.length = min j x.1.length ∧ Up ka S S' ∧ DA S' kd ka (n + c * j) ∧ S1.length < S'.length, fun i acc S' hI => hI.1, ?_, fun j d acc S' hj hI => ?_, fun acc S' hI => ?_⟩
  · refine ⟨by simp, by simp, by simp, hup.trans Up.app, hda.app, by simp⟩
  · obtain ⟨h1, h2, h3, h4, h5, h6⟩ := hI
    have hjl := (List.getElem?_eq_some_iff.mp hj).1
    have hcj : c * j ≤ c * L := Nat.mul_le_mul_left c (by omega)
    obtain ⟨δ1, hb, he⟩ := hel d S' (n + c * j) (by omega) h4 h5
    refine ⟨hgd _, δ1, hb, ?_⟩
    simp only [t_yes, if_true]
    refine he _ fun y S2 hy up2 da2 => ⟨acc, up2.get _ _ (by omega) h1, by rw [sizeLine_eq]; omega, ?_, ?_, ?_, ?_, ?_, ?_⟩
    · have := up2.len
      rw [List.getElem?_set_self (by omega)]
    · intro z hz
      rcases List.mem_append.mp hz with hz | hz
      · exact h2 z hz
      · rw [List.mem_singleton.mp hz]
        exact hy
    · rw [List.length_append, h3, List.length_singleton]
      omega
    · have u3 := h4.trans up2
      refine ⟨by rw [List.length_set]; exact u3.len, fun k o hk e => ?_⟩
      have hs : k ≠ S1.length := by
        have := get_len e
        have := hup.len
        omega
      rw [List.getElem?_set_ne (by omega)]
      exact u3.get k o hk e
    · obtain ⟨ne, ds, p, a1, a2, a3⟩ := da2
      have hd1 : kd < S1.length := by
        obtain ⟨_, _, _, b1, _⟩ := hda
        exact get_len b1
      refine ⟨ne, ds, p, by rw [List.getElem?_set_ne (by omega)]; exact a1, by rw [List.getElem?_set_ne (by omega)]; exact a2, ?_⟩
      have : c * (j + 1) = c * j + c := Nat.mul_succ c j
      exact ⟨by omega, a3.2⟩
    · have := up2.len
      rw [List.length_set]
      omega
  · obtain ⟨h1, h2, h3, h4, h5, h6⟩ := hI
    have hcj : c * x.1.length ≤ c * L := Nat.mul_le_mul_left c hxl
    exact ⟨hgd _, k _ _ _ h1 h2 (by rw [h3]; omega) h4 (h5.up (by omega))⟩
theorem nice_list {k : Nat} {xs : List D} (h1 : S[k]? = some (.lst xs)) (h : Nice (.tup xs)) : ∃ ps, py S (.ref k) = some (.list ps) ∧ SeqAt.shaped (.list ps) = true ∧ (∀ f, pysI f xs = some ps) ∧ PyData.eqvAll ps ps = true := by
  obtain ⟨ps, a1, a2, a3, a4, a5, a6⟩ := nices_ok (ds := xs) h.n
  refine ⟨ps, ?_, ?_, a1, a6⟩
  · show lstOf S 4 k = _
    unfold lstOf
    simp only [h1, a1]
    rfl
  · have hd : dpDs xs + 1 ≤ 60 := h.dp
    show (PyData.canLayAll0 ps && decide (PyData.depthAll ps + 1 ≤ 64)) = true
    rw [a3, decide_eq_true (by omega)]
    rfl
theorem nice_eqL {i j : Nat} {xs : List D} (h1 : S[i]? = some (.lst xs)) (h2 : S[j]? = some (.lst xs)) (h : Nice (.tup xs)) : SatO (cmpD .Eq (.ref i) (.ref j) S) P = P (.bl true) S := by
  obtain ⟨ps, a1, a2, a3, a4⟩ := nice_list h1 h
  obtain ⟨qs, b1, b2, b3, b4⟩ := nice_list h2 h
  have : qs = ps := by
    have := (a3 fun _ => none).symm.trans (b3 _)
    injection this with this
    exact this.symm
  subst this
  rw [eq_any a1 b1 (fun x y h _ => by cases h) a2 b2]
  show P (.bl (PyData.eqvAll qs qs)) S = _
  rw [a4]
theorem nice_neL {i j : Nat} {xs : List D} (h1 : S[i]? = some (.lst xs)) (h2 : S[j]? = some (.lst xs)) (h : Nice (.tup xs)) : SatO (cmpD .NotEq (.ref i) (.ref j) S) P = P (.bl false) S := by
  obtain ⟨ps, a1, a2, a3, a4⟩ := nice_list h1 h
  obtain ⟨qs, b1, b2, b3, b4⟩ := nice_list h2 h
  have : qs = ps := by
    have := (a3 fun _ => none).symm.trans (b3 _)
    injection this with this
    exact this.symm
  subst this
  rw [ne_any a1 b1 (fun x y h _ => by cases h) a2 b2]
  show P (.bl (!PyData.eqvAll qs qs)) S = _
  rw [a4]
  rfl
/-- out of each entry's form the list's -/
theorem exs_map {α : Type} {f : α → D} {R : α → Prop} : ∀ {ys : List D}, (∀ y ∈ ys, ∃ q, y = f q ∧ R q) → ∃ ps : List α, ys = ps.map f ∧ (∀ q ∈ ps, R q) ∧ ps.length = ys.length
  | [], _ => ⟨[], rfl, by simp, rfl⟩
  | y :: ys, h => by
    obtain ⟨q, rfl, hq⟩ := h y (by simp)
    obtain ⟨ps, rfl, h2, h3⟩ := exs_map (f := f) (R := R) (ys := ys) fun z hz => h z (by simp [hz])
    refine ⟨q :: ps, rfl, fun x hx => ?_, by simp⟩
    rcases List.mem_cons.mp hx with rfl | hx
    · exact hq
    · exact h2 x hx
theorem so_rep {xs : List D} {k : Int} (h : xs ≠ [] ∧ 2 ≤ k ∧ k ≤ 1000 ∧ xs.length ≤ 1000) : SatO (binD .Mult (.tup xs) (.int k) S) P = P (.tup (List.replicate k.toNat xs).flatten) S := by
  show SatO (mulD (.tup xs) (.int k) S) P = _
  unfold mulD
  simp only [if_pos h]
  rfl
theorem so_repG {xs : List D} {k : Int} (h1 : 1 ≤ k) (h2 : k ≤ 1000) (h3 : xs.length ≤ 1000) : SatO (binD .Mult (.tup xs) (.int k) S) P = P (.tup (List.replicate k.toNat xs).flatten) S := by
  by_cases hx : xs ≠ [] ∧ 2 ≤ k
  · exact so_rep ⟨hx.1, hx.2, h2, h3⟩
  · show SatO (mulD (.tup xs) (.int k) S) P = _
    unfold mulD
    have n1 : ¬ (xs ≠ [] ∧ 2 ≤ k ∧ k ≤ 1000 ∧ xs.length ≤ 1000) := fun z => hx ⟨z.1, z.2.1⟩
    have c : xs = [] ∨ k = 1 := by
      by_cases h0 : xs = []
      · exact .inl h0
      · refine .inr ?_
        have : ¬ 2 ≤ k := fun z => hx ⟨h0, z⟩
        omega
    simp only [if_neg n1]
    rw [if_pos ⟨c, by omega, by omega⟩]
    rcases c with rfl | rfl
    · have : (List.replicate k.toNat ([] : List D)).flatten = [] := by simp
      rw [this]
      rfl
    · have : (List.replicate (1 : Int).toNat xs).flatten = xs := by simp
      rw [this]
      rfl
theorem rep_one {n : Nat} {d : D} : (List.replicate n [d]).flatten = List.replicate n d := by
  induction n with
  | zero => rfl
  | succ n ih => rw [List.replicate_succ, List.flatten_cons, ih]; rfl
theorem xe_tup0 {δ : Sl} {X : XQ} : XSat (eTup aNil δ S) P X = P (.tup []) S := by
  rw [xe_tup]
  simp only [xa_nil, List.length_nil, le_size (show 0 ≤ 16777216 by decide), true_and]
@[simp] theorem so_isnot_tt : SatO (cmpD .IsNot (.bl true) (.bl true) S) P = P (.bl false) S := (rfl)
@[simp] theorem so_isnot_nn : SatO (cmpD .IsNot .non .non S) P = P (.bl false) S := (rfl)
end
end DL
set_option Elab.async false
set_option linter.all false
set_option maxRecDepth 100000
set_option maxHeartbeats 2000000
/-! DText: the texts of numbers and of pairs tell them. -/
namespace DL
open PySem L2
def dval (l : List Nat) : Nat := l.foldl (fun a c => 10 * a + (c - 48)) 0
def dig (n : Nat) : List Nat := (Nat.toDigits 10 n).map Char.toNat
theorem dig_eq (n : Nat) : dig n = if n < 10 then [48 + n] else dig (n / 10) ++ [48 + n % 10] := by
  unfold dig
  rw [Nat.toDigits_eq_if (by decide)]
  split
  · rename_i h
    simp [Nat.toNat_digitChar_of_lt_ten h]
  · rw [List.map_append]
    have : n % 10 < 10 := Nat.mod_lt _ (by decide)
    simp [Nat.toNat_digitChar_of_lt_ten this]
theorem dval_dig (n : Nat) : dval (dig n) = n := by
  induction n using Nat.strongRecOn with
  | ind n ih =>
    rw [dig_eq]
    split
    · show 10 * 0 + (48 + n - 48) = n
      omega
    · have := ih (n / 10) (by omega)
      unfold dval at this ⊢
      rw [List.foldl_append, this]
      show 10 * (n / 10) + (48 + n % 10 - 48) = n
      omega
theorem dig_mem : ∀ (n : Nat), ∀ c ∈ dig n, 48 ≤ c ∧ c ≤ 57 := by
  intro n
  induction n using Nat.strongRecOn with
  | ind n ih =>
    intro c hc
    rw [dig_eq] at hc
    split at hc
    · rw [List.mem_singleton.mp hc]
      omega
    · rcases List.mem_append.mp hc with hc | hc
      · exact ih (n / 10) (by omega) c hc
      · rw [List.mem_singleton.mp hc]
        omega
def itx (i : Int) : List Nat := (Str.ofString (toString i)).cps.toList
theorem txt_ofString (s : String) : (Str.ofString s).cps.toList = s.toList.map Char.toNat := by
  rw [Str.ofString_eq_toList]
theorem itx_nat (n : Nat) : itx (Int.ofNat n) = dig n := by
  unfold itx dig
  rw [txt_ofString]
  show (Nat.repr n).toList.map Char.toNat = _
  rw [Nat.toList_repr]
theorem itx_neg (n : Nat) : itx (Int.negSucc n) = 45 :: dig (n + 1) := by
  unfold itx dig
  rw [txt_ofString]
  show ("-" ++ Nat.repr (n + 1)).toList.map Char.toNat = _
  rw [String.toList_append, List.map_append, Nat.toList_repr]
  rfl
theorem itx_mem {i : Int} {c : Nat} (h : c ∈ itx i) : c = 45 ∨ (48 ≤ c ∧ c ≤ 57) := by
  cases i with
  | ofNat n =>
    rw [itx_nat] at h
    exact .inr (dig_mem n c h)
  | negSucc n =>
    rw [itx_neg] at h
    rcases List.mem_cons.mp h with h | h
    · exact .inl h
    · exact .inr (dig_mem _ c h)
theorem itx_inj {i j : Int} (h : itx i = itx j) : i = j := by
  cases i with
  | ofNat n =>
    cases j with
    | ofNat m =>
      rw [itx_nat, itx_nat] at h
      have := congrArg dval h
      rw [dval_dig, dval_dig] at this
      rw [this]
    | negSucc m =>
      rw [itx_nat, itx_neg] at h
      have := dig_mem n 45 (by rw [h]; simp)
      omega
  | negSucc n =>
    cases j with
    | ofNat m =>
      rw [itx_nat, itx_neg] at h
      have := dig_mem m 45 (by rw [← h]; simp)
      omega
    | negSucc m =>
      rw [itx_neg, itx_neg] at h
      injection h with _ h
      have := congrArg dval h
      rw [dval_dig, dval_dig] at this
      have : n = m := by omega
      rw [this]
theorem txt_append (x y : Str) : (x ++ y).cps.toList = x.cps.toList ++ y.cps.toList := by
  show (x.cps ++ y.cps).toList = _
  simp
theorem pair_txt (a b : Int) : (PyData.tuple [.int a, .int b]).shown.cps.toList = 40 :: (itx a ++ 44 :: 32 :: (itx b ++ [41])) := by
  show (("(" : Str) ++ (Str.ofString (toString a) ++ ", " ++ Str.ofString (toString b)) ++ (")" : Str)).cps.toList = _
  rw [txt_append, txt_append, txt_append, txt_append]
  have a1 : ("(" : Str).cps.toList = [40] := rfl
  have a2 : (")" : Str).cps.toList = [41] := rfl
  have a3 : (", " : Str).cps.toList = [44, 32] := rfl
  rw [a1, a2, a3]
  show [40] ++ (itx a ++ [44, 32] ++ itx b) ++ [41] = _
  simp
/-- two texts up to the first comma -/
theorem cut_inj : ∀ {A B R T : List Nat}, (∀ c ∈ A, c ≠ 44) → (∀ c ∈ B, c ≠ 44) → A ++ 44 :: R = B ++ 44 :: T → A = B ∧ R = T
  | [], [], _, _, _, _, h => by
    injection h with _ h
    exact ⟨rfl, h⟩
  | [], b :: B, _, _, _, hb, h => by
    injection h with h _
    exact absurd h.symm (hb b (by simp))
  | a :: A, [], _, _, ha, _, h => by
    injection h with h _
    exact absurd h (ha a (by simp))
  | a :: A, b :: B, _, _, ha, hb, h => by
    injection h with h1 h2
    obtain ⟨h3, h4⟩ := cut_inj (A := A) (B := B) (fun c hc => ha c (by simp [hc])) (fun c hc => hb c (by simp [hc])) h2
    exact ⟨by rw [h1, h3], h4⟩
theorem itx_comma {i : Int} : ∀ c ∈ itx i, c ≠ 44 := fun c hc => by
  have := itx_mem hc
  omega
theorem pair_inj {a b c d : Int} (h : (PyData.tuple [.int a, .int b]).shown = (PyData.tuple [.int c, .int d]).shown) : a = c ∧ b = d := by
  have h := congrArg (fun s : Str => s.cps.toList) h
  simp only [pair_txt] at h
  injection h with _ h
  obtain ⟨h1, h2⟩ := cut_inj itx_comma itx_comma h
  injection h2 with _ h2
  have h3 := List.append_cancel_right h2
  exact ⟨itx_inj h1, itx_inj h3⟩
/-- a text that no pair of numbers has -/
theorem pair_not1 {a b : Int} {l : List Nat} (h : (PyData.tuple [.int a, .int b]).shown.cps.toList = l) (h0 : ∀ r, l ≠ 40 :: r) : False := by
  rw [pair_txt] at h
  exact h0 _ h.symm
/-- "(" x "," r, r not begun by a blank, or with a sign in x or behind that no number has -/
theorem pair_not2 {a b : Int} {A R : List Nat} (h : (PyData.tuple [.int a, .int b]).shown.cps.toList = 40 :: (A ++ 44 :: R)) (hA : ∀ c ∈ A, c ≠ 44) (h0 : (∃ c ∈ A, c ≠ 45 ∧ ¬ (48 ≤ c ∧ c ≤ 57)) ∨ (∀ r, R ≠ 32 :: r) ∨ (∃ B, R = 32 :: (B ++ [41]) ∧ ∃ c ∈ B, c ≠ 45 ∧ ¬ (48 ≤ c ∧ c ≤ 57))) : False := by
  rw [pair_txt] at h
  injection h with _ h
  obtain ⟨h1, h2⟩ := cut_inj itx_comma hA h
  rcases h0 with ⟨c, hc, h3⟩ | h0 | ⟨B, hB, c, hc, h3⟩
  · rw [← h1] at hc
    have := itx_mem hc
    omega
  · exact h0 _ h2.symm
  · rw [hB] at h2
    injection h2 with _ h2
    have h4 := List.append_cancel_right h2
    rw [← h4] at hc
    have := itx_mem hc
    omega
end DL
set_option Elab.async false
set_option linter.all false
set_option maxRecDepth 100000
set_option maxHeartbeats 2000000
/-! DLc: comprehensions that look at what stands. -/
namespace DL
open PySem L2
section
variable {S : SS} {P : D → SS → Prop}
/-- those that pass, each by a function; what stood stands -/
theorem lc_filtA {it : PIt} {ct : CT} {vs : List Nat} {el : PEx} {t : PTs'} {δ : Sl} {items : List D} {g : D → D} {c : D → Bool} {S0 : SS} (hit : Sat (it δ S) fun x S1 => (∀ l, gOk x.2 (S0 ++ l)) ∧ S1 = S0 ∧ x.1 = items)
    (hel : ∀ d ∈ items, ∃ δ1, bindC ct d (wipeD δ vs) = some δ1 ∧ (∀ (l0 : SS) (P : Bool → SS → Prop), (∀ l, P (c d) (S0 ++ l0 ++ l)) → Sat (t δ1 (S0 ++ l0)) P) ∧ ∀ (l0 : SS) (P : D → SS → Prop), c d = true → (∀ l, P (g d) (S0 ++ l0 ++ l)) → Sat (el δ1 (S0 ++ l0)) P) (hl : items.length ≤ 100000) (k : ∀ l, P (.ref S0.length) (S0 ++ MO.lst ((items.filter c).map g) :: l)) : Sat (eLc it ct vs t el δ S) P := by
  refine e_lc (hit.mono fun x S1 hx => ?_)
  obtain ⟨hgd, rfl, hi⟩ := hx
  subst hi
  refine ⟨fun j acc S' => acc = ((x.1.take j).filter c).map g ∧ ∃ l, S' = S1 ++ .lst acc :: l, fun i acc S' hI => ?_, ⟨rfl, [], rfl⟩, fun j d acc S' hj hI => ?_, fun acc S' hI => ?_⟩
  · obtain ⟨_, l, rfl⟩ := hI
    simp
  · obtain ⟨rfl, l, rfl⟩ := hI
    obtain ⟨δ1, hb, ht, he⟩ := hel d (List.mem_of_getElem? hj)
    have hjl := (List.getElem?_eq_some_iff.mp hj).1
    refine ⟨hgd _, δ1, hb, ?_⟩
    refine ht _ _ fun l2 => ?_
    have ef : (x.1.take (j + 1)).filter c = (x.1.take j).filter c ++ (if c d = true then [d] else []) := by
      rw [List.take_add_one, hj, List.filter_append]
      congr 1
      cases hcd : c d <;> simp [hcd]
    cases hcd : c d with
    | false =>
      simp only [Bool.false_eq_true, if_false]
      refine ⟨by rw [ef, hcd]; simp, l ++ l2, by simp⟩
    | true =>
      simp only [if_true]
      have hlen : (((x.1.take j).filter c).map g).length ≤ 100000 := by
        rw [List.length_map]
        exact Nat.le_trans (List.length_filter_le _ _) (by rw [List.length_take]; omega)
      rw [List.append_assoc]
      refine he _ _ hcd fun l3 => ⟨((x.1.take j).filter c).map g, by simp, by rw [sizeLine_eq]; omega, ?_, l ++ l2 ++ l3, by simp⟩
      rw [ef, hcd]
      simp
  · obtain ⟨rfl, l, rfl⟩ := hI
    refine ⟨hgd _, ?_⟩
    rw [List.take_length]
    exact k l
theorem x_asg2 {δ : Sl} {Y : Sl → XQ} {Pn : Sl → SS → Prop} {f : PEx} {i j : Nat} : XR (sAsg f (.many [i, j]) δ S) Pn P Y = XSat (f δ S) (fun x S1 => match x with
  | .tup [a, b] => Pn ((δ.set i (some a)).set j (some b)) S1
  | _ => False) (Y δ) := by
  rw [x_asgN]
  congr 1
  funext x S1
  unfold DL.bindC
  cases x with
  | tup ds =>
    match ds with
    | [] => rfl
    | [_] => rfl
    | [a, b] => rfl
    | a :: b :: c :: ds' =>
      have hl : ¬ ((a :: b :: c :: ds').length = [i, j].length) := by simp
      show (match (if (a :: b :: c :: ds').length = [i, j].length then some (setsD [i, j] (a :: b :: c :: ds') δ) else none) with
        | some δ' => Pn δ' S1
        | none => False) = False
      rw [if_neg hl]
  | _ => rfl
theorem so_addL' {i j : Nat} {xs ys : List D} (h1 : S[i]? = some (.lst xs)) (h2 : S[j]? = some (.lst ys)) (h : xs.length + ys.length ≤ 16777216) : SatO (binD .Add (.ref i) (.ref j) S) P = P (.ref S.length) (S ++ [.lst (xs ++ ys)]) := by
  show SatO (addD (.ref i) (.ref j) S) P = _
  unfold addD
  simp only [h1, h2]
  rw [if_pos (le_size h)]
  rfl
end
end DL
set_option Elab.async false
set_option linter.all false
set_option maxRecDepth 100000
set_option maxHeartbeats 2000000
/-! DEq: == of two values without booleans. -/
namespace DL
open PySem L2
mutual
def clnD : D → Bool
  | .non | .int _ | .str _ => true
  | .tup ds => clnDs ds
  | _ => false
def clnDs : List D → Bool
  | [] => true
  | d :: ds => clnD d && clnDs ds
end
theorem pysI_cons {f : Nat → Option PyData} {d : D} {ds : List D} {ps : List PyData} (h : pysI f (d :: ds) = some ps) : ∃ p qs, pyI f d = some p ∧ pysI f ds = some qs ∧ ps = p :: qs := by
  have h : (match pyI f d, pysI f ds with
    | some p, some ps => some (p :: ps)
    | _, _ => none) = some ps := h
  split at h
  · rename_i p qs h1 h2
    cases h
    exact ⟨p, qs, h1, h2, rfl⟩
  · cases h
mutual
theorem cln_eqv {f g : Nat → Option PyData} : ∀ {d e : D} {p q : PyData}, clnD d = true → clnD e = true → pyI f d = some p → pyI g e = some q → (PyData.eqv p q = true ↔ d = e)
  | .non, e, p, q, hd, he, h1, h2 => by
    cases h1
    cases e with
    | non => cases h2; exact ⟨fun _ => rfl, fun _ => rfl⟩
    | int _ => cases h2; exact ⟨fun h => (by cases h), fun h => (by cases h)⟩
    | str _ => cases h2; exact ⟨fun h => (by cases h), fun h => (by cases h)⟩
    | tup es =>
      obtain ⟨ps, _, rfl⟩ := Option.map_eq_some_iff.mp (show (pysI g es).map PyData.tuple = some q from h2)
      exact ⟨fun h => (by cases h), fun h => (by cases h)⟩
    | _ => cases he
  | .int i, e, p, q, hd, he, h1, h2 => by
    cases h1
    cases e with
    | non => cases h2; exact ⟨fun h => (by cases h), fun h => (by cases h)⟩
    | int j =>
      cases h2
      show ((i == j) = true) ↔ _
      rw [beq_iff_eq]
      exact ⟨fun h => (by rw [h]), fun h => (by cases h; rfl)⟩
    | str _ => cases h2; exact ⟨fun h => (by cases h), fun h => (by cases h)⟩
    | tup es =>
      obtain ⟨ps, _, rfl⟩ := Option.map_eq_some_iff.mp (show (pysI g es).map PyData.tuple = some q from h2)
      exact ⟨fun h => (by cases h), fun h => (by cases h)⟩
    | _ => cases he
  | .str x, e, p, q, hd, he, h1, h2 => by
    cases h1
    cases e with
    | non => cases h2; exact ⟨fun h => (by cases h), fun h => (by cases h)⟩
    | int j => cases h2; exact ⟨fun h => (by cases h), fun h => (by cases h)⟩
    | str y =>
      cases h2
      show ((x == y) = true) ↔ _
      rw [beq_iff_eq]
      exact ⟨fun h => (by rw [h]), fun h => (by cases h; rfl)⟩
    | tup es =>
      obtain ⟨ps, _, rfl⟩ := Option.map_eq_some_iff.mp (show (pysI g es).map PyData.tuple = some q from h2)
      exact ⟨fun h => (by cases h), fun h => (by cases h)⟩
    | _ => cases he
  | .tup ds, e, p, q, hd, he, h1, h2 => by
    obtain ⟨ps, h3, rfl⟩ := Option.map_eq_some_iff.mp (show (pysI f ds).map PyData.tuple = some p from h1)
    cases e with
    | non => cases h2; exact ⟨fun h => (by cases h), fun h => (by cases h)⟩
    | int j => cases h2; exact ⟨fun h => (by cases h), fun h => (by cases h)⟩
    | str y => cases h2; exact ⟨fun h => (by cases h), fun h => (by cases h)⟩
    | tup es =>
      obtain ⟨qs, h4, rfl⟩ := Option.map_eq_some_iff.mp (show (pysI g es).map PyData.tuple = some q from h2)
      have := clns_eqv (ds := ds) (es := es) hd he h3 h4
      show PyData.eqvAll ps qs = true ↔ _
      rw [this]
      exact ⟨fun h => (by rw [h]), fun h => (by cases h; rfl)⟩
    | _ => cases he
  | .bl _, _, _, _, hd, _, _, _ => by cases hd
  | .rls _, _, _, _, hd, _, _, _ => by cases hd
  | .ref _, _, _, _, hd, _, _, _ => by cases hd
  | .ty _, _, _, _, hd, _, _, _ => by cases hd
  | .gl _, _, _, _, hd, _, _, _ => by cases hd
theorem clns_eqv {f g : Nat → Option PyData} : ∀ {ds es : List D} {ps qs : List PyData}, clnDs ds = true → clnDs es = true → pysI f ds = some ps → pysI g es = some qs → (PyData.eqvAll ps qs = true ↔ ds = es)
  | [], [], ps, qs, _, _, h1, h2 => by
    cases h1; cases h2
    exact ⟨fun _ => rfl, fun _ => rfl⟩
  | [], e :: es, ps, qs, _, _, h1, h2 => by
    obtain ⟨q, qs', _, _, rfl⟩ := pysI_cons h2
    cases h1
    exact ⟨fun h => (by cases h), fun h => (by cases h)⟩
  | d :: ds, [], ps, qs, _, _, h1, h2 => by
    obtain ⟨q, qs', _, _, rfl⟩ := pysI_cons h1
    cases h2
    exact ⟨fun h => (by cases h), fun h => (by cases h)⟩
  | d :: ds, e :: es, ps, qs, hd, he, h1, h2 => by
    obtain ⟨p, ps', a1, a2, rfl⟩ := pysI_cons h1
    obtain ⟨q, qs', b1, b2, rfl⟩ := pysI_cons h2
    have hd : (clnD d && clnDs ds) = true := hd
    have he : (clnD e && clnDs es) = true := he
    rw [Bool.and_eq_true] at hd he
    have r1 := cln_eqv hd.1 he.1 a1 b1
    have r2 := clns_eqv hd.2 he.2 a2 b2
    show (PyData.eqv p q && PyData.eqvAll ps' qs') = true ↔ _
    rw [Bool.and_eq_true, r1, r2]
    exact ⟨fun h => (by rw [h.1, h.2]), fun h => (by cases h; exact ⟨rfl, rfl⟩)⟩
end
theorem clnDs_iff {ds : List D} : clnDs ds = true ↔ ∀ d ∈ ds, clnD d = true := by
  induction ds with
  | nil => exact ⟨fun _ d h => by simp at h, fun _ => rfl⟩
  | cons x xs ih =>
    show (clnD x && clnDs xs) = true ↔ _
    rw [Bool.and_eq_true, ih]
    simp
/-- the same value -/
noncomputable def same (d e : D) : Bool := @decide (d = e) (Classical.propDecidable _)
theorem same_iff {d e : D} : same d e = true ↔ d = e := by unfold same; exact @decide_eq_true_iff _ (Classical.propDecidable _)
theorem same_self {d : D} : same d d = true := same_iff.mpr rfl
theorem same_false {d e : D} (h : d ≠ e) : same d e = false := by
  cases hs : same d e with
  | true => exact absurd (same_iff.mp hs) h
  | false => rfl
section
variable {S : SS} {P : D → SS → Prop} {d e : D}
theorem Nice.shaped (h : Nice d) : ∃ p, py S d = some p ∧ SeqAt.shaped p = true := by
  obtain ⟨p, h1, h2, h3, h4, h5, h6⟩ := nice_ok h.n
  have hd := h.dp
  refine ⟨p, h1 _, ?_⟩
  unfold SeqAt.shaped
  rw [h3, decide_eq_true (show p.depth ≤ 64 by omega)]
  rfl
theorem eq_cln (hd : Nice d) (he : Nice e) (cd : clnD d = true) (ce : clnD e = true) (ns : ∀ x y, d = .str x → e = .str y → False) : SatO (cmpD .Eq d e S) P = P (.bl (same d e)) S := by
  obtain ⟨p, h1, h2⟩ := hd.shaped (S := S)
  obtain ⟨q, h3, h4⟩ := he.shaped (S := S)
  rw [eq_any h1 h3 ns h2 h4]
  have : PyData.eqv p q = same d e := by
    rw [Bool.eq_iff_iff, same_iff]
    exact cln_eqv cd ce h1 h3
  rw [this]
theorem ne_cln (hd : Nice d) (he : Nice e) (cd : clnD d = true) (ce : clnD e = true) (ns : ∀ x y, d = .str x → e = .str y → False) : SatO (cmpD .NotEq d e S) P = P (.bl (!same d e)) S := by
  obtain ⟨p, h1, h2⟩ := hd.shaped (S := S)
  obtain ⟨q, h3, h4⟩ := he.shaped (S := S)
  rw [ne_any h1 h3 ns h2 h4]
  have : PyData.eqv p q = same d e := by
    rw [Bool.eq_iff_iff, same_iff]
    exact cln_eqv cd ce h1 h3
  rw [this]
end
/-! zip -/
theorem zip_all : ∀ {ds es : List D}, ds.length = es.length → ((ds.zip es).all fun p => same p.1 p.2) = same (.tup ds) (.tup es)
  | [], [], _ => same_self.symm
  | [], _ :: _, h => by cases h
  | _ :: _, [], h => by cases h
  | d :: ds, e :: es, h => by
    have ih := zip_all (ds := ds) (es := es) (by simpa using h)
    show (same d e && (ds.zip es).all fun p => same p.1 p.2) = _
    rw [ih, Bool.eq_iff_iff, Bool.and_eq_true, same_iff, same_iff, same_iff]
    constructor
    · rintro ⟨rfl, h2⟩
      cases h2
      rfl
    · intro h
      cases h
      exact ⟨rfl, rfl⟩
end DL
set_option Elab.async false
set_option linter.all false
set_option maxRecDepth 100000
set_option maxHeartbeats 1000000
/-! DBrk: loops that are left by break or go on by continue. -/
namespace DL
open PySem L2
def XB (r : RS) (Pn Pb Pc : Sl → SS → Prop) (Pr : D → SS → Prop) (X : Sl → XQ) : Prop := match r with
  | .nx δ S => Pn δ S
  | .bk δ S => Pb δ S
  | .ct δ S => Pc δ S
  | .rt d S => Pr d S
  | .exc δ C fs S => X δ C fs S
  | .bad => False
section
variable {α β : Type} {δ : Sl} {S : SS} {P : D → SS → Prop} {Pn Pb Pc : Sl → SS → Prop} {Pr : D → SS → Prop} {X : XQ} {Y : Sl → XQ}
theorem XR.b {r : RS} (h : XR r Pn Pr Y) : XB r Pn Pb Pc Pr Y := by
  cases r with
  | nx δ S => exact h
  | rt d S => exact h
  | exc δ c f S => exact h
  | _ => exact h.elim
theorem xb_bk : XB (.bk δ S) Pn Pb Pc Pr Y = Pb δ S := (rfl)
theorem xb_ct : XB (.ct δ S) Pn Pb Pc Pr Y = Pc δ S := (rfl)
theorem xb_nil : XB (sNil δ S) Pn Pb Pc Pr Y = Pn δ S := (rfl)
theorem xb_seq {a b : PSt} : XB (sSeq a b δ S) Pn Pb Pc Pr Y = XB (a δ S) (fun δ S => XB (b δ S) Pn Pb Pc Pr Y) Pb Pc Pr Y := by
  unfold sSeq
  cases a δ S <;> rfl
theorem xb_to {r : R α} {k : α → SS → RS} : XB (r.to δ k) Pn Pb Pc Pr Y = XSat r (fun x S => XB (k x S) Pn Pb Pc Pr Y) (Y δ) := by cases r <;> rfl
theorem xb_if {t : PTs'} {a b : PSt} : XB (sIf t a b δ S) Pn Pb Pc Pr Y = XSat (t δ S) (fun c S1 => if c = true then XB (a δ S1) Pn Pb Pc Pr Y else XB (b δ S1) Pn Pb Pc Pr Y) (Y δ) := by
  unfold sIf
  rw [xb_to]
  congr 1
  funext c S1
  cases c <;> rfl
theorem xb_asg1 {f : PEx} {i : Nat} : XB (sAsg f (.one i) δ S) Pn Pb Pc Pr Y = XSat (f δ S) (fun x S1 => Pn (δ.set i (some x)) S1) (Y δ) := by unfold sAsg; rw [xb_to]; rfl
theorem xb_asgN {f : PEx} {is : List Nat} : XB (sAsg f (.many is) δ S) Pn Pb Pc Pr Y = XSat (f δ S) (fun x S1 => (match bindC (.many is) x δ with
  | some δ' => Pn δ' S1
  | none => False)) (Y δ) := by
  unfold sAsg
  rw [xb_to]
  congr 1
  funext x S1
  cases bindC (.many is) x δ <;> rfl
theorem xb_drop {f : PEx} : XB (sDrop f δ S) Pn Pb Pc Pr Y = XSat (f δ S) (fun _ S1 => Pn δ S1) (Y δ) := by unfold sDrop; rw [xb_to]; rfl
theorem xb_ret {f : PEx} : XB (sRet f δ S) Pn Pb Pc Pr Y = XSat (f δ S) Pr (Y δ) := by unfold sRet; rw [xb_to]; rfl
theorem xb_par {fa fb : PEx} {i j : Nat} : XB (sPar i j fa fb δ S) Pn Pb Pc Pr Y = XSat (fa δ S) (fun x S1 => XSat (fb δ S1) (fun y S2 => Pn ((δ.set i (some x)).set j (some y)) S2) (Y δ)) (Y δ) := by unfold sPar; rw [xb_to]; congr 1; funext x S1; rw [xb_to]; rfl
theorem xforB_inv {gd : Gd} {ct : CT} {body : PSt} (I : Nat → Sl → SS → Prop) : ∀ (l : List D) (i : Nat) (δ : Sl) (S : SS), I i δ S →
    (∀ j d δ S, l[j]? = some d → I (i + j) δ S → gOk gd S ∧ ∃ δ1, bindC ct d δ = some δ1 ∧ XB (body δ1 S) (I (i + j + 1)) Pn (I (i + j + 1)) Pr Y) → (∀ δ S, I (i + l.length) δ S → gOk gd S ∧ Pn δ S) → XR (forL gd ct body l δ S) Pn Pr Y
  | [], i, δ, S, h0, hs, he => by
    obtain ⟨h1, h2⟩ := he δ S h0
    unfold forL
    rw [if_pos h1]
    exact h2
  | d :: l, i, δ, S, h0, hs, he => by
    obtain ⟨h1, δ1, h2, h3⟩ := hs 0 d δ S rfl h0
    unfold forL
    rw [if_pos h1, h2]
    have step := xforB_inv (gd := gd) (ct := ct) (body := body) I l (i + 1)
    have hs' : ∀ j d δ S, l[j]? = some d → I (i + 1 + j) δ S → gOk gd S ∧ ∃ δ1, bindC ct d δ = some δ1 ∧ XB (body δ1 S) (I (i + 1 + j + 1)) Pn (I (i + 1 + j + 1)) Pr Y := fun j d δ S hj hI => by
      have e : i + 1 + j = i + (j + 1) := by omega
      rw [e] at hI ⊢
      exact hs (j + 1) d δ S hj hI
    have e2 : i + 1 + l.length = i + (d :: l).length := by rw [List.length_cons]; omega
    have he' : ∀ δ S, I (i + 1 + l.length) δ S → gOk gd S ∧ Pn δ S := fun δ S hI => he δ S (e2 ▸ hI)
    show XR (match body δ1 S with
      | .nx δ' S' => forL gd ct body l δ' S'
      | .ct δ' S' => forL gd ct body l δ' S'
      | .bk δ' S' => .nx δ' S'
      | x => x) Pn Pr Y
    cases hb : body δ1 S with
    | nx δ' S' => rw [hb] at h3; exact step δ' S' h3 hs' he'
    | ct δ' S' => rw [hb] at h3; exact step δ' S' h3 hs' he'
    | bk δ' S' => rw [hb] at h3; exact h3
    | rt d S' => rw [hb] at h3; exact h3
    | exc δ' c f S' => rw [hb] at h3; exact h3
    | bad => rw [hb] at h3; exact h3.elim
theorem x_forB {it : PIt} {ct : CT} {body : PSt} (h : XSat (it δ S) (fun x S1 => ∃ I : Nat → Sl → SS → Prop, I 0 δ S1 ∧ (∀ j d δ S, x.1[j]? = some d → I j δ S → gOk x.2 S ∧ ∃ δ1, bindC ct d δ = some δ1 ∧ XB (body δ1 S) (I (j + 1)) Pn (I (j + 1)) Pr Y) ∧ (∀ δ S, I x.1.length δ S → gOk x.2 S ∧ Pn δ S)) (Y δ)) :
    XR (sFor it ct body δ S) Pn Pr Y := by
  unfold sFor
  rw [xr_to]
  refine h.mono (fun x S1 ⟨I, h0, hs, he⟩ => ?_) (fun _ _ _ h => h)
  exact xforB_inv I x.1 0 δ S1 h0 (by simpa using hs) (by simpa using he)
theorem x_whileB {t : PTs'} {b : PSt} (I : Nat → Sl → SS → Prop) (hs : ∀ m δ S, I m δ S → XSat (t δ S) (fun c S1 => if c = true then XB (b δ S1) (fun δ' S' => ∃ m', m' < m ∧ I m' δ' S') Pn (fun δ' S' => ∃ m', m' < m ∧ I m' δ' S') Pr Y else Pn δ S1) (Y δ)) :
    ∀ (m : Nat) (δ : Sl) (S : SS), I m δ S → XR (sWhile t b δ S) Pn Pr Y := by
  intro m
  induction m using Nat.strongRecOn with
  | ind m ih =>
    intro δ S h
    rw [sWhile_eq, xr_to]
    refine (hs m δ S h).mono (fun c S1 hc => ?_) (fun _ _ _ h => h)
    cases c with
    | false => exact hc
    | true =>
      simp only [if_true] at hc ⊢
      cases hb : b δ S1 with
      | nx δ' S' =>
        rw [hb] at hc
        obtain ⟨m', hm, hI⟩ := hc
        exact ih m' hm δ' S' hI
      | ct δ' S' =>
        rw [hb] at hc
        obtain ⟨m', hm, hI⟩ := hc
        exact ih m' hm δ' S' hI
      | bk δ' S' => rw [hb] at hc; exact hc
      | rt d S' => rw [hb] at hc; exact hc
      | exc δ' c f S' => rw [hb] at hc; exact hc
      | bad => rw [hb] at hc; exact hc.elim
end
end DL
set_option Elab.async false
set_option linter.all false
set_option maxRecDepth 100000
set_option maxHeartbeats 2000000
/-! DMore: rules that many laws want. -/
namespace DL
open PySem L2
section
variable {S : SS} {P : D → SS → Prop} {X : XQ}
theorem absI (i : Int) : (if i < 0 then -i else i) = (i.natAbs : Int) := by split <;> omega
def isNon : D → Bool
  | .non => true
  | _ => false
theorem so_is_non {d : D} : SatO (cmpD .Is d .non S) P = P (.bl (isNon d)) S := by cases d <;> rfl
theorem so_isnot_non {d : D} : SatO (cmpD .IsNot d .non S) P = P (.bl (!isNon d)) S := by cases d <;> rfl
theorem small_len {n : Nat} (h : n ≤ 1000000) : small (n : Int) := by
  unfold small
  omega
theorem small_lt {i : Int} (h : i.natAbs < 2 ^ 30) : small i := by
  unfold small
  omega
theorem set_last {o o' : MO} : (S ++ [o]).set S.length o' = S ++ [o'] := by simp
theorem set_mid {a b : MO} {l : List MO} : (S ++ a :: l).set S.length b = S ++ b :: l := by simp
theorem get_mid {a : MO} {l : List MO} : (S ++ a :: l)[S.length]? = some a := by simp
theorem iter_ref {k : Nat} {ds : List D} (h : S[k]? = some (.lst ds)) : iterD (.ref k) S = some (ds, [(k, ds)]) := by
  unfold iterD
  simp only [h]
theorem rng1n {n : Nat} (h : n ≤ 1000000) : rng1D [.int (n : Int)] S = some (rngItems 0 n 1, []) := by rw [rng1 (small_len h), Int.toNat_natCast]
theorem rng2n {i j : Int} (hi : i.natAbs < 2 ^ 30) (hj : j.natAbs < 2 ^ 30) : rng2D [.int i, .int j] S = some (rngItems i (j - i).toNat 1, []) := by
  show (if small i ∧ small j then some (rngItems i (j - i).toNat 1, []) else none) = _
  rw [if_pos ⟨small_lt hi, small_lt hj⟩]
theorem bind_many2 {i j : Nat} {a b : D} {δ : Sl} : bindC (.many [i, j]) (.tup [a, b]) δ = some ((δ.set i (some a)).set j (some b)) := (rfl)
theorem bind_many3 {i j k : Nat} {a b c : D} {δ : Sl} : bindC (.many [i, j, k]) (.tup [a, b, c]) δ = some (((δ.set i (some a)).set j (some b)).set k (some c)) := (rfl)
theorem bind_many4 {i j k l : Nat} {a b c d : D} {δ : Sl} : bindC (.many [i, j, k, l]) (.tup [a, b, c, d]) δ = some ((((δ.set i (some a)).set j (some b)).set k (some c)).set l (some d)) := (rfl)
/-- is a list of values the empty list? -/
theorem eqv_nilL {xs : List D} {ps : List PyData} (a3 : pysI (fun _ => none) xs = some ps) : PyData.eqv (.list ps) (.list []) = xs.isEmpty := by
  cases xs with
  | nil =>
    have : ps = [] := by
      have a3 : some [] = some ps := a3
      injection a3 with a3
      exact a3.symm
    subst this
    rfl
  | cons x xs =>
    cases ps with
    | nil =>
      exfalso
      have a3 : (match pyI (fun _ => none) x, pysI (fun _ => none) xs with
        | some p, some ps => some (p :: ps)
        | _, _ => none) = some [] := a3
      split at a3
      · cases a3
      · cases a3
    | cons q qs => rfl
theorem py_nil {j : Nat} (h2 : S[j]? = some (.lst [])) : py S (.ref j) = some (.list []) := by
  show lstOf S 4 j = _
  unfold lstOf
  simp only [h2]
  rfl
theorem ne_nilL {i j : Nat} {xs : List D} (h1 : S[i]? = some (.lst xs)) (h2 : S[j]? = some (.lst [])) (h : Nice (.tup xs)) : SatO (cmpD .NotEq (.ref i) (.ref j) S) P = P (.bl (!xs.isEmpty)) S := by
  obtain ⟨ps, a1, a2, a3, a4⟩ := nice_list h1 h
  rw [ne_any a1 (py_nil h2) (fun x y h _ => by cases h) a2 rfl, eqv_nilL (a3 _)]
theorem eq_nilL {i j : Nat} {xs : List D} (h1 : S[i]? = some (.lst xs)) (h2 : S[j]? = some (.lst [])) (h : Nice (.tup xs)) : SatO (cmpD .Eq (.ref i) (.ref j) S) P = P (.bl xs.isEmpty) S := by
  obtain ⟨ps, a1, a2, a3, a4⟩ := nice_list h1 h
  rw [eq_any a1 (py_nil h2) (fun x y h _ => by cases h) a2 rfl, eqv_nilL (a3 _)]
theorem atI_last {α : Type} {xs : List α} {x : α} : atI (xs ++ [x]) (-1) = some x := by
  have e : ixN (xs ++ [x]).length (-1) = some xs.length := by
    unfold ixN
    rw [if_neg (by decide), if_pos (by simp; omega)]
    simp
    omega
  unfold atI
  rw [e]
  simp
/-- the last of a list -/
theorem so_lastL {k : Nat} {ds : List D} {d : D} (h : S[k]? = some (.lst (ds ++ [d]))) : SatO (ixD (.ref k) (.int (-1)) S) P = P d S := by
  unfold ixD
  have hs : seqD (.ref k) S = some (ds ++ [d]) := by
    unfold seqD
    simp only [h]
  simp only [hs, atI_last]
  rfl
theorem so_lastT {ds : List D} {d : D} : SatO (ixD (.tup (ds ++ [d])) (.int (-1)) S) P = P d S := by
  unfold ixD
  have hs : seqD (.tup (ds ++ [d])) S = some (ds ++ [d]) := rfl
  simp only [hs, atI_last]
  rfl
theorem so_addT {xs ys : List D} (h : xs.length + ys.length ≤ 16777216) : SatO (binD .Add (.tup xs) (.tup ys) S) P = P (.tup (xs ++ ys)) S := by
  show SatO (if xs.length + ys.length ≤ sizeLine then some (D.tup (xs ++ ys), S) else none) P = _
  rw [if_pos (le_size h)]
  rfl
theorem so_addL {i j : Nat} {xs ys : List D} (h1 : S[i]? = some (.lst xs)) (h2 : S[j]? = some (.lst ys)) (h : xs.length + ys.length ≤ 16777216) : SatO (binD .Add (.ref i) (.ref j) S) P = P (.ref S.length) (S ++ [.lst (xs ++ ys)]) := by
  show SatO (addD (.ref i) (.ref j) S) P = _
  unfold addD
  simp only [h1, h2]
  rw [if_pos (le_size h)]
  rfl
theorem any_map {α : Type} {f : α → Bool} {l : List α} {k : Nat} (h : S[k]? = some (.lst (l.map fun a => D.bl (f a)))) : SatO (one anyD [.ref k] S) P = P (.bl (l.any f)) S := by
  unfold one anyD itemsD
  simp only [h, bls_map, sato_some]
  congr 2
  rw [List.any_map]
  rfl
theorem pr_inj {a b c d : Int} (h : D.tup [.int a, .int b] = .tup [.int c, .int d]) : a = c ∧ b = d := by
  injection h with h
  injection h with h1 h2
  injection h2 with h2
  injection h1 with h1
  injection h2 with h2
  exact ⟨h1, h2⟩
/-- a list's truth -/
theorem tru_ref {k : Nat} {ds : List D} (h : S[k]? = some (.lst ds)) : truD (.ref k) S = some (!ds.isEmpty) := by
  unfold truD
  simp only [h]
theorem lc_mapA0 {it : PIt} {ct : CT} {vs : List Nat} {el : PEx} {δ : Sl} {items : List D} {g : D → D} {S0 : SS} (hit : Sat (it δ S) fun x S1 => (∀ l, gOk x.2 (S0 ++ l)) ∧ S1 = S0 ∧ x.1 = items)
    (hel : ∀ d ∈ items, ∃ δ1, bindC ct d (wipeD δ vs) = some δ1 ∧ ∀ (S' : SS) (P : D → SS → Prop), (∀ l, P (g d) (S' ++ l)) → Sat (el δ1 S') P) (hl : items.length ≤ 100000) (k : ∀ l, P (.ref S0.length) (S0 ++ .lst (items.map g) :: l)) : Sat (eLc it ct vs tYes' el δ S) P := by
  refine e_lc (hit.mono fun x S1 hx => ?_)
  obtain ⟨hgd, rfl, hi⟩ := hx
  subst hi
  refine ⟨fun j acc S' => acc = (x.1.take j).map g ∧ ∃ l, S' = S1 ++ .lst acc :: l, fun i acc S' hI => ?_, ⟨rfl, [], rfl⟩, fun j d acc S' hj hI => ?_, fun acc S' hI => ?_⟩
  · obtain ⟨_, l, rfl⟩ := hI
    simp
  · obtain ⟨rfl, l, rfl⟩ := hI
    obtain ⟨δ1, hb, he⟩ := hel d (List.mem_of_getElem? hj)
    have hjl := (List.getElem?_eq_some_iff.mp hj).1
    refine ⟨hgd _, δ1, hb, ?_⟩
    simp only [t_yes, if_true]
    refine he _ _ fun l2 => ⟨(x.1.take j).map g, by simp, by rw [List.length_map, List.length_take, sizeLine_eq]; omega, ?_, l ++ l2, by simp⟩
    rw [List.take_add_one, hj]
    simp
  · obtain ⟨rfl, l, rfl⟩ := hI
    refine ⟨hgd _, ?_⟩
    rw [List.take_length]
    exact k l
theorem lc_mapA {it : PIt} {ct : CT} {vs : List Nat} {el : PEx} {δ : Sl} {items : List D} {g : D → D} (hit : Sat (it δ S) fun x S1 => S1 = S ++ [.lst items] ∧ x = (items, [(S.length, items)]))
    (hel : ∀ d ∈ items, ∃ δ1, bindC ct d (wipeD δ vs) = some δ1 ∧ ∀ (S' : SS) (P : D → SS → Prop), (∀ l, P (g d) (S' ++ l)) → Sat (el δ1 S') P) (hl : items.length ≤ 100000) (k : ∀ l, P (.ref (S ++ [MO.lst items]).length) (S ++ [MO.lst items] ++ MO.lst (items.map g) :: l)) : Sat (eLc it ct vs tYes' el δ S) P :=
  lc_mapA0 (items := items) (g := g) (S0 := S ++ [.lst items]) (hit.mono fun x S1 h => by
    obtain ⟨rfl, rfl⟩ := h
    exact ⟨fun l => ⟨get_app get_last, trivial⟩, rfl, rfl⟩) hel hl k

/-! slices, repeats -/
theorem so_slT {ds : List D} {l u : Option Int} : SatO (slD l u (.tup ds) S) P = P (.tup (cutD ds l u)) S := (rfl)
theorem cut_take {ds : List D} {k : Nat} : cutD ds none (some (k : Int)) = ds.take k := by
  unfold cutD
  rw [HT.sIx_nat]
  have e1 : HT.sIx ds.length 0 none = 0 := rfl
  rw [e1, List.drop_zero, Nat.sub_zero]
  by_cases h : k ≤ ds.length
  · rw [Nat.min_eq_left h]
  · rw [Nat.min_eq_right (by omega), List.take_length, List.take_of_length_le (by omega)]
theorem cut_drop {ds : List D} {k : Nat} : cutD ds (some (k : Int)) none = ds.drop k := by
  unfold cutD
  rw [HT.sIx_nat]
  have e1 : HT.sIx ds.length ds.length none = ds.length := rfl
  rw [e1]
  by_cases h : k ≤ ds.length
  · rw [Nat.min_eq_left h, List.take_of_length_le (by rw [List.length_drop]; omega)]
  · rw [Nat.min_eq_right (by omega), List.drop_length, List.drop_of_length_le (by omega)]
    simp
theorem so_repL {i : Nat} {xs : List D} {k : Int} (h : S[i]? = some (.lst xs)) (h0 : 0 ≤ k ∧ k ≤ 1000 ∧ xs.length ≤ 1000) : SatO (binD .Mult (.ref i) (.int k) S) P = P (.ref S.length) (S ++ [.lst (List.replicate k.toNat xs).flatten]) := by
  show SatO (mulD (.ref i) (.int k) S) P = _
  unfold mulD
  simp only [h]
  have : xs.length * k.toNat ≤ 1000 * 1000 := Nat.mul_le_mul h0.2.2 (by omega)
  rw [if_pos ⟨by omega, by omega, le_size (by omega)⟩]
  rfl
theorem mem_rep {k : Nat} {xs : List D} {d : D} (h : d ∈ (List.replicate k xs).flatten) : d ∈ xs := by
  obtain ⟨l, h1, h2⟩ := List.mem_flatten.mp h
  rw [(List.mem_replicate.mp h1).2] at h2
  exact h2
/-! iterators -/
theorem hit_tup {δ : Sl} {i : Nat} {ds : List D} (h : δ[i]? = some (some (.tup ds))) : XSat (iVal (eVar i) δ S) (fun x S1 => (∀ l, gOk x.2 (S ++ l)) ∧ S1 = S ∧ x.1 = ds) noX := by
  simp only [xit_val, xe_var, h, iterD]
  first
    | exact ⟨fun l => trivial, trivial⟩
    | exact ⟨fun l => trivial, trivial, trivial⟩
theorem hit_rng1 {δ : Sl} {a : PAs} {n : Nat} (hn : n ≤ 1000000) (h : ∀ Q : List D → SS → Prop, Q [.int (n : Int)] S → XSat (a δ S) Q noX) : XSat (iOn rng1D a δ S) (fun x S1 => (∀ l, gOk x.2 (S ++ l)) ∧ S1 = S ∧ x.1 = rngItems 0 n 1) noX := by
  rw [xit_on]
  refine h _ ?_
  rw [rng1n hn]
  exact ⟨fun l => trivial, rfl, rfl⟩
theorem so_minN {i j : Nat} : SatO (minD [.int (i : Int), .int (j : Int)] S) P = P (.int ((min i j : Nat) : Int)) S := by
  show P (.int (if (j : Int) < (i : Int) then (j : Int) else (i : Int))) S = _
  congr 2
  split <;> omega
/-! all, any, filters: over what an iterator gives -/
section
variable {it : PIt} {ct : CT} {vs : List Nat} {el : PEx} {t : PTs'} {δ : Sl} {items : List D} {f : D → Bool}
theorem xc_all (hit : XSat (it δ S) (fun x S1 => (∀ l, gOk x.2 (S ++ l)) ∧ S1 = S ∧ x.1 = items) noX) (hel : ∀ d ∈ items, ∃ δ1, bindC ct d (wipeD δ vs) = some δ1 ∧ ∀ (S' : SS) (Q : D → SS → Prop), (∀ l, Q (.bl (f d)) (S' ++ l)) → XSat (el δ1 S') Q noX) (hl : items.length ≤ 100000) (k : ∀ l, P (.bl (items.all f)) (S ++ l)) :
    XSat (eCB (one allD) (aCons (eLc it ct vs tYes' el) aNil) δ S) P X := by
  simp only [xe_cb, xa_cons, xa_nil]
  refine (lc_map (items := items) (g := fun d => .bl (f d)) (Sat.mono (XSat.s hit) fun _ _ h => h) (fun d hd => ?_) hl fun l => ?_).x
  · obtain ⟨δ1, h1, h2⟩ := hel d hd
    exact ⟨δ1, h1, fun S' Q kk => (h2 S' Q kk).s⟩
  · rw [all_map (l := items) (f := f) (by simp)]
    exact k _
theorem xc_any (hit : XSat (it δ S) (fun x S1 => (∀ l, gOk x.2 (S ++ l)) ∧ S1 = S ∧ x.1 = items) noX) (hel : ∀ d ∈ items, ∃ δ1, bindC ct d (wipeD δ vs) = some δ1 ∧ ∀ (S' : SS) (Q : D → SS → Prop), (∀ l, Q (.bl (f d)) (S' ++ l)) → XSat (el δ1 S') Q noX) (hl : items.length ≤ 100000) (k : ∀ l, P (.bl (items.any f)) (S ++ l)) :
    XSat (eCB (one anyD) (aCons (eLc it ct vs tYes' el) aNil) δ S) P X := by
  simp only [xe_cb, xa_cons, xa_nil]
  refine (lc_map (items := items) (g := fun d => .bl (f d)) (Sat.mono (XSat.s hit) fun _ _ h => h) (fun d hd => ?_) hl fun l => ?_).x
  · obtain ⟨δ1, h1, h2⟩ := hel d hd
    exact ⟨δ1, h1, fun S' Q kk => (h2 S' Q kk).s⟩
  · rw [any_map (l := items) (f := f) (by simp)]
    exact k _
theorem filter_empty {α : Type} {c : α → Bool} {l : List α} : (!(l.filter c).isEmpty) = l.any c := by
  induction l with
  | nil => rfl
  | cons a l ih =>
    rw [List.filter_cons, List.any_cons]
    cases c a with
    | true => simp
    | false => simpa using ih
/-- is there one that passes? -/
theorem xc_some {c : D → Bool} {j : Nat} {Q : Bool → SS → Prop} (hit : XSat (it δ S) (fun x S1 => (∀ l, gOk x.2 (S ++ l)) ∧ S1 = S ∧ x.1 = items) noX) (hel : ∀ d ∈ items, ∃ δ1, bindC ct d (wipeD δ vs) = some δ1 ∧ δ1[j]? = some (some d) ∧ ∀ (S' : SS) (Q : Bool → SS → Prop), (∀ l, Q (c d) (S' ++ l)) → XSat (t δ1 S') Q noX) (hl : items.length ≤ 100000) (k : ∀ l, Q (items.any c) (S ++ l)) :
    XSat (tTru (eLc it ct vs t (eVar j)) δ S) Q X := by
  rw [xt_tru]
  refine (lc_filtA (S0 := S) (items := items) (c := c) (g := fun d => d) (Sat.mono (XSat.s hit) fun _ _ h => h) (fun d hd => ?_) hl fun l => ?_).x
  · obtain ⟨δ1, h1, h2, h3⟩ := hel d hd
    refine ⟨δ1, h1, fun l0 Q kk => (h3 _ Q kk).s, fun l0 P _ kk => XSat.s ?_⟩
    rw [xe_var, h2]
    have := kk []
    rwa [List.append_nil] at this
  · rw [tru_ref (ds := (items.filter c).map fun d => d) (by simp)]
    simp only [List.map_id']
    have := k (MO.lst ((items.filter c).map fun d => d) :: l)
    rw [List.map_id'] at this
    rw [← filter_empty] at this
    exact this
end
end
end DL
set_option Elab.async false
set_option linter.all false
set_option maxRecDepth 100000
set_option maxHeartbeats 2000000
/-! DDem: what is asked of arguments. -/
namespace DL
open PySem L2
section
variable {S : SS} {P : D → SS → Prop} {Pb : Bool → SS → Prop} {X : XQ}
theorem nTup (d : D) : (∃ ds, d = .tup ds) ∨ ∀ ds, d ≠ .tup ds := by
  cases d with
  | tup ds => exact .inl ⟨ds, rfl⟩
  | _ => exact .inr fun _ h => by cases h
theorem isi_ntup {d : D} {Pd : D → SS → Prop} (hp : aP d = true) (h : ∀ ds, d ≠ .tup ds) : SatO (isiD [d, .ty "tuple"] S) Pd = Pd (.bl false) S := by
  cases d with
  | tup ds => exact absurd rfl (h ds)
  | _ => first | (cases hp; done) | simp
def isTupD : D → Bool
  | .tup _ => true
  | _ => false
theorem isi_tupB {d : D} {Pd : D → SS → Prop} (hp : aP d = true) : SatO (isiD [d, .ty "tuple"] S) Pd = Pd (.bl (isTupD d)) S := by
  cases d <;> first | (cases hp; done) | simp [isTupD]
def isStrD : D → Bool
  | .str _ => true
  | _ => false
theorem isi_strB {d : D} {Pd : D → SS → Prop} (hp : aP d = true) : SatO (isiD [d, .ty "str"] S) Pd = Pd (.bl (isStrD d)) S := by
  cases d <;> first | (cases hp; done) | simp [isStrD]
def isBlD : D → Bool
  | .bl _ => true
  | _ => false
theorem isi_blB {d : D} {Pd : D → SS → Prop} (hp : aP d = true) : SatO (isiD [d, .ty "bool"] S) Pd = Pd (.bl (isBlD d)) S := by
  cases d <;> first | (cases hp; done) | simp [isBlD]
/-- a natural number, not to be evaluated -/
@[irreducible] def nI (n : Nat) : Int := n
theorem nI_eq {n : Nat} : nI n = (n : Int) := by unfold nI; rfl
/-- a tuple whose length is within -/
def lenB (lo hi : Int) : D → Bool
  | .tup ds => decide (lo ≤ (ds.length : Int)) && decide ((ds.length : Int) ≤ hi)
  | _ => false
theorem lenB_tup {lo hi : Int} {d : D} (h : lenB lo hi d = true) : ∃ ds, d = .tup ds ∧ lo ≤ ds.length ∧ (ds.length : Int) ≤ hi := by
  unfold lenB at h
  split at h
  · rename_i ds
    rw [Bool.and_eq_true, decide_eq_true_eq, decide_eq_true_eq] at h
    exact ⟨ds, rfl, h⟩
  · cases h
theorem xt_len {d : D} {δ : Sl} {i : Nat} {lo hi : Int} (hp : aP d = true) (hd : δ[i]? = some (some d)) (k : Pb (!lenB lo hi d) S) :
    XSat (tOr' (tNot' (tTru (eCB isiD (aCons (eVar i) (aCons (eC (.ty "tuple")) aNil))))) (tNot' (tVal (eChain (cmpD .LtE) (cmpD .LtE) (eC (.int lo)) (eCB (one lenD) (aCons (eVar i) aNil)) (eC (.int hi))))) δ S) Pb X := by
  simp only [xt_or, xt_not, xt_tru, xt_val, xe_cb, xe_chain, xa_cons, xa_nil, xe_var, xe_c, hd]
  rcases nTup d with ⟨ds, rfl⟩ | hn
  · simp only [isi_tup_tup, tru_bl, Bool.not_true, Bool.false_eq_true, if_false, so_lenT, so_le, boolOf_bl]
    have el : lenB lo hi (.tup ds) = (decide (lo ≤ (ds.length : Int)) && decide ((ds.length : Int) ≤ hi)) := rfl
    rw [el] at k
    by_cases h1 : lo ≤ (ds.length : Int)
    · rw [decide_eq_true h1] at k ⊢
      exact k
    · rw [decide_eq_false h1] at k ⊢
      exact k
  · rw [isi_ntup hp hn]
    have : lenB lo hi d = false := by
      unfold lenB
      split
      · exact absurd rfl (hn _)
      · rfl
    rw [this] at k
    exact k
theorem xt_lenGt {d : D} {δ : Sl} {i : Nat} {hi : Int} (hp : aP d = true) (hd : δ[i]? = some (some d)) (k : Pb (!lenB 0 hi d) S) :
    XSat (tOr' (tNot' (tTru (eCB isiD (aCons (eVar i) (aCons (eC (.ty "tuple")) aNil))))) (tVal (eOp2 (cmpD .Gt) (eCB (one lenD) (aCons (eVar i) aNil)) (eC (.int hi)))) δ S) Pb X := by
  simp only [xt_or, xt_not, xt_tru, xt_val, xe_cb, xe_op2, xa_cons, xa_nil, xe_var, xe_c, hd]
  rcases nTup d with ⟨ds, rfl⟩ | hn
  · simp only [isi_tup_tup, tru_bl, Bool.not_true, Bool.false_eq_true, if_false, so_lenT, so_gt, boolOf_bl]
    have el : lenB 0 hi (.tup ds) = (decide (0 ≤ (ds.length : Int)) && decide ((ds.length : Int) ≤ hi)) := rfl
    rw [el] at k
    rw [decide_eq_true (by omega : (0 : Int) ≤ (ds.length : Int)), Bool.true_and] at k
    by_cases h1 : hi < (ds.length : Int)
    · rw [decide_eq_true h1]
      rw [decide_eq_false (by omega)] at k
      exact k
    · rw [decide_eq_false h1]
      rw [decide_eq_true (by omega)] at k
      exact k
  · rw [isi_ntup hp hn]
    have : lenB 0 hi d = false := by
      unfold lenB
      split
      · exact absurd rfl (hn _)
      · rfl
    rw [this] at k
    exact k
theorem xt_lenNe {d : D} {δ : Sl} {i : Nat} {n : Int} (hp : aP d = true) (hd : δ[i]? = some (some d)) (k : Pb (!lenB n n d) S) :
    XSat (tOr' (tNot' (tTru (eCB isiD (aCons (eVar i) (aCons (eC (.ty "tuple")) aNil))))) (tVal (eOp2 (cmpD .NotEq) (eCB (one lenD) (aCons (eVar i) aNil)) (eC (.int n)))) δ S) Pb X := by
  simp only [xt_or, xt_not, xt_tru, xt_val, xe_cb, xe_op2, xa_cons, xa_nil, xe_var, xe_c, hd]
  rcases nTup d with ⟨ds, rfl⟩ | hn
  · simp only [isi_tup_tup, tru_bl, Bool.not_true, Bool.false_eq_true, if_false, so_lenT, ne_int, boolOf_bl]
    have e : (!((ds.length : Int) == n)) = !lenB n n (.tup ds) := by
      unfold lenB
      congr 1
      rw [Bool.eq_iff_iff]
      simp
      omega
    rw [e]
    exact k
  · rw [isi_ntup hp hn]
    have : lenB n n d = false := by
      unfold lenB
      split
      · exact absurd rfl (hn _)
      · rfl
    rw [this] at k
    exact k
/-- a first entry that passes -/
theorem so_lenN {ds : List D} : SatO (one lenD [.tup ds] S) P = P (.int (nI ds.length)) S := by rw [so_lenT, nI_eq]
theorem find_filter {α : Type} {c : α → Bool} : ∀ {l : List α}, (l.filter c).head? = l.find? c
  | [] => rfl
  | a :: l => by
    rw [List.filter_cons, List.find?_cons]
    cases h : c a with
    | true => rfl
    | false => exact find_filter
theorem so_sumT {ns : List Int} : SatO (one sumD [.tup (ns.map D.int)] S) P = P (.int ns.sum) S := by
  unfold one sumD
  have : ∀ ns : List Int, intsD (ns.map D.int) = some ns := fun ns => by
    induction ns with
    | nil => rfl
    | cons n ns ih =>
      show (intsD (ns.map D.int)).map (n :: ·) = _
      rw [ih]
      rfl
  simp only [this]
  rfl
theorem intsD_map : ∀ ns : List Int, intsD (ns.map D.int) = some ns := fun ns => by
  induction ns with
  | nil => rfl
  | cons n ns ih =>
    show (intsD (ns.map D.int)).map (n :: ·) = _
    rw [ih]
    rfl
theorem so_sumL {k : Nat} {ns : List Int} (h : S[k]? = some (.lst (ns.map D.int))) : SatO (one sumD [.ref k] S) P = P (.int ns.sum) S := by
  unfold one sumD itemsD
  simp only [h, intsD_map]
  rfl
theorem hit_ref {δ : Sl} {i k : Nat} {ds : List D} (h : δ[i]? = some (some (.ref k))) (hk : S[k]? = some (.lst ds)) : XSat (iVal (eVar i) δ S) (fun x S1 => (∀ l, gOk x.2 (S ++ l)) ∧ S1 = S ∧ x.1 = ds) noX := by
  simp only [xit_val, xe_var, h]
  rw [iter_ref hk]
  first
    | exact ⟨fun l => ⟨get_app hk, trivial⟩, rfl, rfl⟩
    | exact ⟨fun l => ⟨get_app hk, trivial⟩, trivial⟩
    | exact ⟨fun l => ⟨get_app hk, trivial⟩, trivial, rfl⟩
    | exact ⟨fun l => ⟨get_app hk, trivial⟩, trivial, trivial⟩
theorem so_min2 {a b : Int} : SatO (minD [.int a, .int b] S) P = P (.int (min a b)) S := by
  show P (.int (if b < a then b else a)) S = _
  congr 2
  split <;> omega
theorem so_max2 {a b : Int} : SatO (maxD [.int a, .int b] S) P = P (.int (max a b)) S := by
  show P (.int (if b > a then b else a)) S = _
  congr 2
  split <;> omega
theorem so_ixL0 {k : Nat} {ds : List D} {d : D} (h : S[k]? = some (.lst ds)) (hn : ds[0]? = some d) : SatO (ixD (.ref k) (.int 0) S) P = P d S := so_ixL h (n := 0) hn rfl
theorem find_range {n j : Nat} {p : Nat → Bool} (hj : j < n) (h : ∀ i, i < j → p i = false) (hp : p j = true) : (List.range n).find? p = some j := by
  rw [List.find?_range_eq_some]
  exact ⟨hp, List.mem_range.mpr hj, fun i hi => by rw [h i hi]; rfl⟩
theorem find_none {n : Nat} {p : Nat → Bool} (h : ∀ i, i < n → p i = false) : (List.range n).find? p = none := by
  rw [List.find?_eq_none]
  intro i hi
  rw [h i (List.mem_range.mp hi)]
  exact Bool.false_ne_true
/-! statements -/
section
variable {Pn : Sl → SS → Prop} {Pr : D → SS → Prop} {Y : Sl → XQ} {δ : Sl}
theorem x_aug {op : Operator} {n : Nat} {f : PEx} {x : D} (h : δ[n]? = some (some x)) : XR (sAug op n f δ S) Pn Pr Y = XSat (f δ S) (fun y S1 => SatO (augD op x y S1) fun z S2 => Pn (δ.set n (some z)) S2) (Y δ) := by
  unfold sAug
  rw [h]
  show XR ((f δ S).to δ _) Pn Pr Y = _
  rw [xr_to]
  congr 1
  funext y S1
  cases augD op x y S1 <;> rfl
theorem so_augA {i j : Int} : SatO (augD .Add (.int i) (.int j) S) P = P (.int (i + j)) S := (rfl)
theorem so_augS {i j : Int} : SatO (augD .Sub (.int i) (.int j) S) P = P (.int (i - j)) S := (rfl)
theorem x_app {i k : Nat} {f : PEx} {ds0 : List D} (hi : δ[i]? = some (some (.ref k))) (h0 : S[k]? = some (.lst ds0)) (h : XSat (f δ S) (fun y S1 => ∃ ds, S1[k]? = some (.lst ds) ∧ ds.length < 16777216 ∧ Pn δ (S1.set k (.lst (ds ++ [y])))) (Y δ)) :
    XR (sDrop (eMt miApp (eVar i) (aCons f aNil)) δ S) Pn Pr Y := by
  rw [x_drop, xe_mt]
  simp only [xe_var, hi]
  refine ⟨isTy_lst h0, ?_⟩
  rw [xa_cons]
  refine h.mono (fun y S1 hy => ?_) fun _ _ _ h => h
  obtain ⟨ds, h1, h2, h3⟩ := hy
  rw [xa_nil, miApp_g, app_lst h1 (lt_size h2)]
  exact h3
theorem x_forT {i : Nat} {ds : List D} {ct : CT} {body : PSt} (I : Nat → Sl → SS → Prop) (hd : δ[i]? = some (some (.tup ds))) (h0 : I 0 δ S) (hs : ∀ j d δ S, ds[j]? = some d → I j δ S → ∃ δ1, bindC ct d δ = some δ1 ∧ XR (body δ1 S) (I (j + 1)) Pr Y) (he : ∀ δ S, I ds.length δ S → Pn δ S) :
    XR (sFor (iVal (eVar i)) ct body δ S) Pn Pr Y := by
  refine x_for ?_
  simp only [xit_val, xe_var, hd, iterD]
  exact ⟨I, h0, fun j d δ S hj hI => ⟨trivial, hs j d δ S hj hI⟩, fun δ S hI => ⟨trivial, he δ S hI⟩⟩
theorem x_forE {i : Nat} {ds : List D} {ct : CT} {body : PSt} (I : Nat → Sl → SS → Prop) (hd : δ[i]? = some (some (.tup ds))) (h0 : I 0 δ S) (hs : ∀ (j : Nat) d δ S, ds[j]? = some d → I j δ S → ∃ δ1, bindC ct (.tup [.int (nI j), d]) δ = some δ1 ∧ XR (body δ1 S) (I (j + 1)) Pr Y) (he : ∀ δ S, I ds.length δ S → Pn δ S) :
    XR (sFor (iOn enuD (aCons (eVar i) aNil)) ct body δ S) Pn Pr Y := by
  refine x_for ?_
  simp only [xit_on, xa_cons, xa_nil, xe_var, hd]
  show ∃ I : Nat → Sl → SS → Prop, I 0 δ S ∧ (∀ j d δ S, (enumItems ds)[j]? = some d → I j δ S → True ∧ ∃ δ1, bindC ct d δ = some δ1 ∧ XR (body δ1 S) (I (j + 1)) Pr Y) ∧ ∀ δ S, I (enumItems ds).length δ S → True ∧ Pn δ S
  refine ⟨I, h0, fun j d δ S hj hI => ⟨trivial, ?_⟩, fun δ S hI => ⟨trivial, he δ S ?_⟩⟩
  · unfold enumItems at hj
    rw [List.getElem?_map, Option.map_eq_some_iff] at hj
    obtain ⟨⟨d0, q⟩, e0, rfl⟩ := hj
    rw [List.getElem?_zipIdx, Option.map_eq_some_iff] at e0
    obtain ⟨d1, e1, e2⟩ := e0
    cases e2
    simp only [Nat.zero_add]
    rw [← nI_eq]
    exact hs j d0 δ S e1 hI
  · have : (enumItems ds).length = ds.length := by simp [enumItems]
    rwa [this] at hI
theorem x_forR {a : PAs} {n : Nat} {ct : CT} {body : PSt} (I : Nat → Sl → SS → Prop) (hn : n ≤ 1000000) (ha : ∀ Q : List D → SS → Prop, Q [.int (nI n)] S → XSat (a δ S) Q (Y δ)) (h0 : I 0 δ S) (hs : ∀ (j : Nat) δ S, j < n → I j δ S → ∃ δ1, bindC ct (.int (nI j)) δ = some δ1 ∧ XR (body δ1 S) (I (j + 1)) Pr Y) (he : ∀ δ S, I n δ S → Pn δ S) :
    XR (sFor (iOn rng1D a) ct body δ S) Pn Pr Y := by
  refine x_for ?_
  rw [xit_on]
  refine ha _ ?_
  rw [nI_eq, rng1n hn]
  refine ⟨I, h0, fun j d δ S hj hI => ⟨trivial, ?_⟩, fun δ S hI => ⟨trivial, he δ S ?_⟩⟩
  · obtain ⟨hj1, rfl⟩ := rng_get hj
    have := hs j δ S hj1 hI
    rw [nI_eq] at this
    simpa using this
  · rwa [rng_len] at hI
theorem x_forR2 {a : PAs} {lo hi : Int} {ct : CT} {body : PSt} (I : Nat → Sl → SS → Prop) (h1 : lo.natAbs < 2 ^ 30) (h2 : hi.natAbs < 2 ^ 30) (ha : ∀ Q : List D → SS → Prop, Q [.int lo, .int hi] S → XSat (a δ S) Q (Y δ)) (h0 : I 0 δ S) (hs : ∀ (j : Nat) δ S, lo + (j : Int) < hi → I j δ S → ∃ δ1, bindC ct (.int (lo + nI j)) δ = some δ1 ∧ XR (body δ1 S) (I (j + 1)) Pr Y) (he : ∀ δ S, I (hi - lo).toNat δ S → Pn δ S) :
    XR (sFor (iOn rng2D a) ct body δ S) Pn Pr Y := by
  refine x_for ?_
  rw [xit_on]
  refine ha _ ?_
  rw [rng2n h1 h2]
  refine ⟨I, h0, fun j d δ S hj hI => ⟨trivial, ?_⟩, fun δ S hI => ⟨trivial, he δ S ?_⟩⟩
  · obtain ⟨hj1, rfl⟩ := rng_get hj
    have := hs j δ S (by omega) hI
    rw [nI_eq] at this
    simpa using this
  · rwa [rng_len] at hI
end
/-! comprehensions, by the turn -/
section
variable {it : PIt} {ct : CT} {vs : List Nat} {el : PEx} {t : PTs'} {δ : Sl} {n : Nat} {f g : Nat → D} {c : Nat → Bool}
theorem lc_filtN (hit : XSat (it δ S) (fun x S1 => (∀ l, gOk x.2 (S ++ l)) ∧ S1 = S ∧ x.1 = (List.range n).map f) noX)
    (hel : ∀ i, i < n → ∃ δ1, bindC ct (f i) (wipeD δ vs) = some δ1 ∧ (∀ (l0 : SS) (Q : Bool → SS → Prop), (∀ l, Q (c i) (S ++ l0 ++ l)) → XSat (t δ1 (S ++ l0)) Q noX) ∧ ∀ (l0 : SS) (Q : D → SS → Prop), c i = true → (∀ l, Q (g i) (S ++ l0 ++ l)) → XSat (el δ1 (S ++ l0)) Q noX)
    (hl : n ≤ 100000) (k : ∀ l, P (.ref S.length) (S ++ MO.lst (((List.range n).filter c).map g) :: l)) : XSat (eLc it ct vs t el δ S) P X := by
  refine Sat.x (e_lc ((XSat.s hit).mono fun x S1 hx => ?_))
  obtain ⟨hgd, rfl, hi⟩ := hx
  rw [hi]
  refine ⟨fun j acc S' => acc = ((List.range j).filter c).map g ∧ ∃ l, S' = S1 ++ .lst acc :: l, fun i acc S' hI => ?_, ⟨rfl, [], rfl⟩, fun j d acc S' hj hI => ?_, fun acc S' hI => ?_⟩
  · obtain ⟨_, l, rfl⟩ := hI
    simp
  · obtain ⟨rfl, l, rfl⟩ := hI
    rw [List.getElem?_map, Option.map_eq_some_iff] at hj
    obtain ⟨i, hi1, rfl⟩ := hj
    obtain ⟨hj1, hj2⟩ := List.getElem?_eq_some_iff.mp hi1
    simp at hj1 hj2
    subst hj2
    obtain ⟨δ1, hb, ht, he⟩ := hel j hj1
    refine ⟨hgd _, δ1, hb, ?_⟩
    refine XSat.s (ht _ _ fun l2 => ?_)
    have ef : (List.range (j + 1)).filter c = (List.range j).filter c ++ (if c j = true then [j] else []) := by
      rw [List.range_succ, List.filter_append]
      congr 1
      cases hcd : c j <;> simp [hcd]
    cases hcd : c j with
    | false =>
      simp only [Bool.false_eq_true, if_false]
      refine ⟨by rw [ef, hcd]; simp, l ++ l2, by simp⟩
    | true =>
      simp only [if_true]
      have hlen : (((List.range j).filter c).map g).length ≤ 100000 := by
        rw [List.length_map]
        exact Nat.le_trans (List.length_filter_le _ _) (by rw [List.length_range]; omega)
      rw [List.append_assoc]
      refine XSat.s (he _ _ hcd fun l3 => ⟨((List.range j).filter c).map g, by simp, by rw [sizeLine_eq]; omega, ?_, l ++ l2 ++ l3, by simp⟩)
      rw [ef, hcd]
      simp
  · obtain ⟨rfl, l, rfl⟩ := hI
    refine ⟨hgd _, ?_⟩
    rw [List.length_map, List.length_range]
    exact k l
theorem lc_mapN (hit : XSat (it δ S) (fun x S1 => (∀ l, gOk x.2 (S ++ l)) ∧ S1 = S ∧ x.1 = (List.range n).map f) noX)
    (hel : ∀ i, i < n → ∃ δ1, bindC ct (f i) (wipeD δ vs) = some δ1 ∧ ∀ (l0 : SS) (Q : D → SS → Prop), (∀ l, Q (g i) (S ++ l0 ++ l)) → XSat (el δ1 (S ++ l0)) Q noX)
    (hl : n ≤ 100000) (k : ∀ l, P (.ref S.length) (S ++ MO.lst ((List.range n).map g) :: l)) : XSat (eLc it ct vs tYes' el δ S) P X := by
  refine lc_filtN (c := fun _ => true) (g := g) hit (fun i hi => ?_) hl fun l => ?_
  · obtain ⟨δ1, h1, h2⟩ := hel i hi
    exact ⟨δ1, h1, fun l0 Q kk => by rw [xt_yes]; have := kk []; rwa [List.append_nil] at this, fun l0 Q _ kk => h2 l0 Q kk⟩
  · have : (List.range n).filter (fun _ => true) = List.range n := by simp
    rw [this]
    exact k l
end
theorem hit_rngN {δ : Sl} {a : PAs} {n : Nat} (hn : n ≤ 1000000) (h : ∀ Q : List D → SS → Prop, Q [.int (nI n)] S → XSat (a δ S) Q noX) : XSat (iOn rng1D a δ S) (fun x S1 => (∀ l, gOk x.2 (S ++ l)) ∧ S1 = S ∧ x.1 = (List.range n).map fun i => D.int (nI i)) noX := by
  rw [xit_on]
  refine h _ ?_
  rw [nI_eq, rng1n hn]
  refine ⟨fun l => trivial, rfl, ?_⟩
  refine List.map_congr_left fun i _ => ?_
  rw [nI_eq]
  congr 1
  omega
theorem hit_rngN2 {δ : Sl} {a : PAs} {lo hi : Int} {n : Nat} (h1 : lo.natAbs < 2 ^ 30) (h2 : hi.natAbs < 2 ^ 30) (hn : (hi - lo).toNat = n) (h : ∀ Q : List D → SS → Prop, Q [.int lo, .int hi] S → XSat (a δ S) Q noX) : XSat (iOn rng2D a δ S) (fun x S1 => (∀ l, gOk x.2 (S ++ l)) ∧ S1 = S ∧ x.1 = (List.range n).map fun i => D.int (lo + nI i)) noX := by
  rw [xit_on]
  refine h _ ?_
  rw [rng2n h1 h2, hn]
  refine ⟨fun l => trivial, rfl, ?_⟩
  refine List.map_congr_left fun i _ => ?_
  rw [nI_eq]
  congr 1
  omega
theorem lc_drawN {it : PIt} {ct : CT} {vs : List Nat} {el : PEx} {δ : Sl} {kd ka n c L : Nat} {Q : D → Prop}
    (hit : Sat (it δ S) fun x S1 => (∀ S', gOk x.2 S') ∧ Up ka S S1 ∧ DA S1 kd ka n ∧ x.1.length = L) (hL : L ≤ 100000)
    (hel : ∀ (d : D) (S' : SS) (m : Nat), m ≤ n + c * L → Up ka S S' → DA S' kd ka m → ∃ δ1, bindC ct d (wipeD δ vs) = some δ1 ∧ ∀ P : D → SS → Prop, (∀ y S'', Q y → Up ka S' S'' → DA S'' kd ka (m + c) → P y S'') → Sat (el δ1 S') P)
    (k : ∀ (j : Nat) (ys : List D) (S' : SS), S'[j]? = some (.lst ys) → (∀ y ∈ ys, Q y) → ys.length = L → Up ka S S' → DA S' kd ka (n + c * L) → P (.ref j) S') : Sat (eLc it ct vs tYes' el δ S) P := by
  refine e_lc (hit.mono fun x S1 hx => ?_)
  obtain ⟨hgd, hup, hda, hxl⟩ := hx
  have hka : ka < S1.length := by
    obtain ⟨_, _, _, _, h2, _⟩ := hda
    exact get_len h2
  refine ⟨fun j acc S' => S'[S1.length]? = some (.lst acc) ∧ (∀ y ∈ acc, Q y) ∧ acc.length = min j x.1.length ∧ Up ka S S' ∧ DA S' kd ka (n + c * j) ∧ S1.length < S'.length, fun i acc S' hI => hI.1, ?_, fun j d acc S' hj hI => ?_, fun acc S' hI => ?_⟩
  · refine ⟨by simp, by simp, by simp, hup.trans Up.app, hda.app, by simp⟩
  · obtain ⟨h1, h2, h3, h4, h5, h6⟩ := hI
    have hjl := (List.getElem?_eq_some_iff.mp hj).1
    have hcj : c * j ≤ c * L := Nat.mul_le_mul_left c (by omega)
    obtain ⟨δ1, hb, he⟩ := hel d S' (n + c * j) (by omega) h4 h5
    refine ⟨hgd _, δ1, hb, ?_⟩
    simp only [t_yes, if_true]
    refine he _ fun y S2 hy up2 da2 => ⟨acc, up2.get _ _ (by omega) h1, by rw [sizeLine_eq]; omega, ?_, ?_, ?_, ?_, ?_, ?_⟩
    · have := up2.len
      rw [List.getElem?_set_self (by omega)]
    · intro z hz
      rcases List.mem_append.mp hz with hz | hz
      · exact h2 z hz
      · rw [List.mem_singleton.mp hz]
        exact hy
    · rw [List.length_append, h3, List.length_singleton]
      omega
    · have u3 := h4.trans up2
      refine ⟨by rw [List.length_set]; exact u3.len, fun k o hk e => ?_⟩
      have hs : k ≠ S1.length := by
        have := get_len e
        have := hup.len
        omega
      rw [List.getElem?_set_ne (by omega)]
      exact u3.get k o hk e
    · obtain ⟨ne, ds, p, a1, a2, a3⟩ := da2
      have hd1 : kd < S1.length := by
        obtain ⟨_, _, _, b1, _⟩ := hda
        exact get_len b1
      refine ⟨ne, ds, p, by rw [List.getElem?_set_ne (by omega)]; exact a1, by rw [List.getElem?_set_ne (by omega)]; exact a2, ?_⟩
      have : c * (j + 1) = c * j + c := Nat.mul_succ c j
      exact ⟨by omega, a3.2⟩
    · have := up2.len
      rw [List.length_set]
      omega
  · obtain ⟨h1, h2, h3, h4, h5, h6⟩ := hI
    have hcj : c * x.1.length ≤ c * L := Nat.mul_le_mul_left c (Nat.le_of_eq hxl)
    exact ⟨hgd _, k _ _ _ h1 h2 (by rw [h3]; omega) h4 (h5.up (by omega))⟩
theorem hit_rngD {δ : Sl} {a : PAs} {n kd ka q : Nat} (hn : n ≤ 1000000) (da : DA S kd ka q) (h : ∀ Q : List D → SS → Prop, Q [.int (nI n)] S → XSat (a δ S) Q noX) : XSat (iOn rng1D a δ S) (fun x S1 => (∀ S', gOk x.2 S') ∧ Up ka S S1 ∧ DA S1 kd ka q ∧ x.1.length = n) noX := by
  rw [xit_on]
  refine h _ ?_
  rw [nI_eq, rng1n hn]
  refine ⟨fun _ => trivial, Up.refl, da, ?_⟩
  exact rng_len
theorem filter_get0 {n m : Nat} {c : Nat → Bool} {g : Nat → D} (h : (List.range n).find? c = some m) : (((List.range n).filter c).map g)[0]? = some (g m) := by
  rw [← find_filter] at h
  cases hf : (List.range n).filter c with
  | nil =>
    rw [hf] at h
    cases h
  | cons a r =>
    rw [hf] at h
    cases h
    rfl
theorem filter_nil {n : Nat} {c : Nat → Bool} (h : (List.range n).find? c = none) : (List.range n).filter c = [] := by
  rw [← find_filter] at h
  cases hf : (List.range n).filter c with
  | nil => rfl
  | cons a r =>
    rw [hf] at h
    cases h
end
end DL
set_option Elab.async false
set_option linter.all false
set_option maxRecDepth 100000
/-! what the text says: the defs of the law, each by its tree -/
namespace K27
open PySem L2 DL
structure CA where
  ArgumentError : Addr

def topS (i : Nat) : PySem.Stmt := (PySem.Challenge.pw_geartrue_k27_whole_nearest_wheels_and_fr).main.body.getD i (.Pass ⟨0, 0, 0, 0⟩)
def orc (C : CA) : Orc where
  sb := fun D c => if D = C.ArgumentError then (if c = C.ArgumentError then some true else none) else none
  fd := fun D f => if D = C.ArgumentError then (decide (f ∈ (["reason"] : List Str))) else false
/-! common_divisor -/
abbrev st_common_divisor : PySem.Stmt := topS 9
noncomputable def G_common_divisor (C : CA) : List (Str × GV) := [("abs", .bi biAbs)]
noncomputable def E_common_divisor (C : CA) : SE := { N := ["first", "second"], sc := defScope st_common_divisor, fn := fun _ => true, G := fun x => List.lookup x (G_common_divisor C) }
noncomputable def F_common_divisor (C : CA) : Fn := fnD stdM (orc C) st_common_divisor (E_common_divisor C)
noncomputable def B_common_divisor (C : CA) : PSt := (sSeq (sPar 0 1 (eCB (one absD) (aCons (eVar 0) aNil)) (eCB (one absD) (aCons (eVar 1) aNil))) (sSeq (sWhile (tVal (eOp2 (cmpD .Gt) (eVar 1) (eC (.int 0)))) (sSeq (sPar 0 1 (eVar 1) (eOp2 (binD .Mod) (eVar 0) (eVar 1))) sNil)) (sSeq (sRet (eVar 0)) sNil)))
theorem sem_common_divisor (C : CA) : F_common_divisor C = fnB (B_common_divisor C) 2 := by kernel_rfl
/-! is_integer -/
abbrev st_is_integer : PySem.Stmt := topS 7
noncomputable def G_is_integer (C : CA) : List (Str × GV) := [("isinstance", .bi biIsi), ("int", .bi biInt), ("bool", .bi (biTy "bool" "bool"))]
noncomputable def E_is_integer (C : CA) : SE := { N := ["value"], sc := defScope st_is_integer, fn := fun _ => true, G := fun x => List.lookup x (G_is_integer C) }
noncomputable def F_is_integer (C : CA) : Fn := fnD stdM (orc C) st_is_integer (E_is_integer C)
noncomputable def B_is_integer (C : CA) : PSt := (sSeq (sRet (eAnd (eCB isiD (aCons (eVar 0) (aCons (eC (.ty "int")) aNil))) (eOp1 notD (eCB isiD (aCons (eVar 0) (aCons (eC (.ty "bool")) aNil)))))) sNil)
theorem sem_is_integer (C : CA) : F_is_integer C = fnB (B_is_integer C) 1 := by kernel_rfl
/-! in_range -/
abbrev st_in_range : PySem.Stmt := topS 8
noncomputable def G_in_range (C : CA) : List (Str × GV) := [("is_integer", .fn (F_is_integer C) 1)]
noncomputable def E_in_range (C : CA) : SE := { N := ["value", "least", "most"], sc := defScope st_in_range, fn := fun _ => true, G := fun x => List.lookup x (G_in_range C) }
noncomputable def F_in_range (C : CA) : Fn := fnD stdM (orc C) st_in_range (E_in_range C)
noncomputable def B_in_range (C : CA) : PSt := (sSeq (sRet (eAnd (eCall (F_is_integer C) 1 (aCons (eVar 0) aNil)) (eChain (cmpD .LtE) (cmpD .LtE) (eVar 1) (eVar 0) (eVar 2)))) sNil)
theorem sem_in_range (C : CA) : F_in_range C = fnB (B_in_range C) 3 := by kernel_rfl
/-! is_bounded -/
abbrev st_is_bounded : PySem.Stmt := topS 25
noncomputable def G_is_bounded (C : CA) : List (Str × GV) := [("common_divisor", .fn (F_common_divisor C) 2), ("isinstance", .bi biIsi), ("tuple", .bi biTuple), ("len", .bi biLen), ("all", .bi biAll), ("in_range", .fn (F_in_range C) 3)]
noncomputable def E_is_bounded (C : CA) : SE := { N := ["value", "most", "part"], sc := defScope st_is_bounded, fn := fun _ => true, G := fun x => List.lookup x (G_is_bounded C) }
noncomputable def F_is_bounded (C : CA) : Fn := fnD stdM (orc C) st_is_bounded (E_is_bounded C)
noncomputable def B_is_bounded (C : CA) : PSt := (sSeq (sIf (tOr' (tNot' (tTru (eCB isiD (aCons (eVar 0) (aCons (eC (.ty "tuple")) aNil))))) (tOr' (tVal (eOp2 (cmpD .NotEq) (eCB (one lenD) (aCons (eVar 0) aNil)) (eC (.int 2)))) (tNot' (tTru (eCB (one allD) (aCons (eLc (iVal (eVar 0)) (.one 2) [2] tYes' (eCall (F_in_range C) 3 (aCons (eVar 2) (aCons (eC (.int 1)) (aCons (eVar 1) aNil))))) aNil)))))) (sSeq (sRet (eC (.bl false))) sNil) sNil) (sSeq (sRet (eOp2 (cmpD .Eq) (eCall (F_common_divisor C) 2 (aCons (eOp2 ixD (eVar 0) (eC (.int 0))) (aCons (eOp2 ixD (eVar 0) (eC (.int 1))) aNil))) (eC (.int 1)))) sNil))
theorem sem_is_bounded (C : CA) : F_is_bounded C = fnB (B_is_bounded C) 3 := by kernel_rfl
/-! parents -/
abbrev st_parents : PySem.Stmt := topS 44
noncomputable def G_parents (C : CA) : List (Str × GV) := [("range", .it), ("is_bounded", .fn (F_is_bounded C) 2), ("MAX_BOUND", .val (.int 120)), ("ArgumentError", .ex C.ArgumentError ["reason"])]
noncomputable def E_parents (C : CA) : SE := { N := ["part", "left", "first", "over", "under", "number"], sc := defScope st_parents, fn := fun _ => true, G := fun x => List.lookup x (G_parents C) }
noncomputable def F_parents (C : CA) : Fn := fnD stdM (orc C) st_parents (E_parents C)
noncomputable def B_parents (C : CA) : PSt := (sSeq (sIf (tNot' (tTru (eCall (F_is_bounded C) 2 (aCons (eVar 0) (aCons (eC (.int 120)) aNil))))) (sSeq (sRaise C.ArgumentError ["reason"] (aCons (eC (.str "part")) aNil)) sNil) sNil) (sSeq (sAsg (eVar 0) (.many [3, 4])) (sSeq (sIf (tVal (eOp2 (cmpD .Eq) (eVar 4) (eC (.int 1)))) (sSeq (sRet (eTup (aCons (eTup (aCons (eOp2 (binD .Sub) (eVar 3) (eC (.int 1))) (aCons (eC (.int 1)) aNil))) (aCons (eTup (aCons (eC (.int 1)) (aCons (eC (.int 0)) aNil))) aNil)))) sNil) sNil) (sSeq (sAsg (eOp2 ixD (eLc (iOn rng1D (aCons (eVar 4) aNil)) (.one 5) [5] (tVal (eOp2 (cmpD .Eq) (eOp2 (binD .Mod) (eOp2 (binD .Sub) (eOp2 (binD .Mult) (eVar 3) (eVar 5)) (eC (.int 1))) (eVar 4)) (eC (.int 0)))) (eVar 5)) (eC (.int 0))) (.one 1)) (sSeq (sAsg (eTup (aCons (eOp2 (binD .FloorDiv) (eOp2 (binD .Sub) (eOp2 (binD .Mult) (eVar 3) (eVar 1)) (eC (.int 1))) (eVar 4)) (aCons (eVar 1) aNil))) (.one 2)) (sSeq (sRet (eTup (aCons (eVar 2) (aCons (eTup (aCons (eOp2 (binD .Sub) (eVar 3) (eOp2 ixD (eVar 2) (eC (.int 0)))) (aCons (eOp2 (binD .Sub) (eVar 4) (eVar 1)) aNil))) aNil)))) sNil))))))
theorem sem_parents (C : CA) : F_parents C = fnB (B_parents C) 6 := by kernel_rfl
/-! are_neighbours -/
abbrev st_are_neighbours : PySem.Stmt := topS 45
noncomputable def G_are_neighbours (C : CA) : List (Str × GV) := [("abs", .bi biAbs), ("is_bounded", .fn (F_is_bounded C) 2), ("MAX_BOUND", .val (.int 120)), ("ArgumentError", .ex C.ArgumentError ["reason"])]
noncomputable def E_are_neighbours (C : CA) : SE := { N := ["first", "second", "part", "reason"], sc := defScope st_are_neighbours, fn := fun _ => true, G := fun x => List.lookup x (G_are_neighbours C) }
noncomputable def F_are_neighbours (C : CA) : Fn := fnD stdM (orc C) st_are_neighbours (E_are_neighbours C)
noncomputable def B_are_neighbours (C : CA) : PSt := (sSeq (sFor (iVal (eTup (aCons (eTup (aCons (eVar 0) (aCons (eC (.str "first")) aNil))) (aCons (eTup (aCons (eVar 1) (aCons (eC (.str "second")) aNil))) aNil)))) (.many [2, 3]) (sSeq (sIf (tNot' (tTru (eCall (F_is_bounded C) 2 (aCons (eVar 2) (aCons (eC (.int 120)) aNil))))) (sSeq (sRaise C.ArgumentError ["reason"] (aCons (eVar 3) aNil)) sNil) sNil) sNil)) (sSeq (sRet (eOp2 (cmpD .Eq) (eCB (one absD) (aCons (eOp2 (binD .Sub) (eOp2 (binD .Mult) (eOp2 ixD (eVar 0) (eC (.int 0))) (eOp2 ixD (eVar 1) (eC (.int 1)))) (eOp2 (binD .Mult) (eOp2 ixD (eVar 1) (eC (.int 0))) (eOp2 ixD (eVar 0) (eC (.int 1))))) aNil)) (eC (.int 1)))) sNil))
theorem sem_are_neighbours (C : CA) : F_are_neighbours C = fnB (B_are_neighbours C) 4 := by kernel_rfl
/-! _law_less -/
abbrev st_l_less : PySem.Stmt := topS 56
noncomputable def G_l_less (C : CA) : List (Str × GV) := []
noncomputable def E_l_less (C : CA) : SE := { N := ["one", "other"], sc := defScope st_l_less, fn := fun _ => true, G := fun x => List.lookup x (G_l_less C) }
noncomputable def F_l_less (C : CA) : Fn := fnD stdM (orc C) st_l_less (E_l_less C)
noncomputable def B_l_less (C : CA) : PSt := (sSeq (sRet (eOp2 (cmpD .Lt) (eOp2 (binD .Mult) (eOp2 ixD (eVar 0) (eC (.int 0))) (eOp2 ixD (eVar 1) (eC (.int 1)))) (eOp2 (binD .Mult) (eOp2 ixD (eVar 1) (eC (.int 0))) (eOp2 ixD (eVar 0) (eC (.int 1)))))) sNil)
theorem sem_l_less (C : CA) : F_l_less C = fnB (B_l_less C) 2 := by kernel_rfl
/-! _law_fraction -/
abbrev st_l_fraction : PySem.Stmt := topS 51
noncomputable def G_l_fraction (C : CA) : List (Str × GV) := [("int", .bi biInt), ("abs", .bi biAbs)]
noncomputable def E_l_fraction (C : CA) : SE := { N := ["over", "under", "sign", "one", "other"], sc := defScope st_l_fraction, fn := fun _ => true, G := fun x => List.lookup x (G_l_fraction C) }
noncomputable def F_l_fraction (C : CA) : Fn := fnD stdM (orc C) st_l_fraction (E_l_fraction C)
noncomputable def B_l_fraction (C : CA) : PSt := (sSeq (sPar 3 4 (eCB (one absD) (aCons (eVar 0) aNil)) (eCB (one absD) (aCons (eVar 1) aNil))) (sSeq (sWhile (tVal (eOp2 (cmpD .Gt) (eVar 4) (eC (.int 0)))) (sSeq (sPar 3 4 (eVar 4) (eOp2 (binD .Mod) (eCB (one intD) (aCons (eVar 3) aNil)) (eVar 4))) sNil)) (sSeq (sAsg (eIf (tVal (eOp2 (cmpD .Lt) (eVar 1) (eC (.int 0)))) (eOp1 negD (eC (.int 1))) (eC (.int 1))) (.one 2)) (sSeq (sRet (eTup (aCons (eOp2 (binD .FloorDiv) (eOp2 (binD .Mult) (eVar 2) (eVar 0)) (eVar 3)) (aCons (eOp2 (binD .FloorDiv) (eOp2 (binD .Mult) (eVar 2) (eVar 1)) (eVar 3)) aNil)))) sNil))))
theorem sem_l_fraction (C : CA) : F_l_fraction C = fnB (B_l_fraction C) 5 := by kernel_rfl
/-! _law_sum -/
abbrev st_l_sum : PySem.Stmt := topS 53
noncomputable def G_l_sum (C : CA) : List (Str × GV) := [("_law_fraction", .fn (F_l_fraction C) 2)]
noncomputable def E_l_sum (C : CA) : SE := { N := ["one", "other"], sc := defScope st_l_sum, fn := fun _ => true, G := fun x => List.lookup x (G_l_sum C) }
noncomputable def F_l_sum (C : CA) : Fn := fnD stdM (orc C) st_l_sum (E_l_sum C)
noncomputable def B_l_sum (C : CA) : PSt := (sSeq (sRet (eCall (F_l_fraction C) 2 (aCons (eOp2 (binD .Add) (eOp2 (binD .Mult) (eOp2 ixD (eVar 0) (eC (.int 0))) (eOp2 ixD (eVar 1) (eC (.int 1)))) (eOp2 (binD .Mult) (eOp2 ixD (eVar 1) (eC (.int 0))) (eOp2 ixD (eVar 0) (eC (.int 1))))) (aCons (eOp2 (binD .Mult) (eOp2 ixD (eVar 0) (eC (.int 1))) (eOp2 ixD (eVar 1) (eC (.int 1)))) aNil)))) sNil)
theorem sem_l_sum (C : CA) : F_l_sum C = fnB (B_l_sum C) 2 := by kernel_rfl
/-! _law_minus -/
abbrev st_l_minus : PySem.Stmt := topS 55
noncomputable def G_l_minus (C : CA) : List (Str × GV) := []
noncomputable def E_l_minus (C : CA) : SE := { N := ["one"], sc := defScope st_l_minus, fn := fun _ => true, G := fun x => List.lookup x (G_l_minus C) }
noncomputable def F_l_minus (C : CA) : Fn := fnD stdM (orc C) st_l_minus (E_l_minus C)
noncomputable def B_l_minus (C : CA) : PSt := (sSeq (sRet (eTup (aCons (eOp2 (binD .Sub) (eC (.int 0)) (eOp2 ixD (eVar 0) (eC (.int 0)))) (aCons (eOp2 ixD (eVar 0) (eC (.int 1))) aNil)))) sNil)
theorem sem_l_minus (C : CA) : F_l_minus C = fnB (B_l_minus C) 1 := by kernel_rfl
/-! _law_gap -/
abbrev st_l_gap : PySem.Stmt := topS 58
noncomputable def G_l_gap (C : CA) : List (Str × GV) := [("abs", .bi biAbs), ("_law_sum", .fn (F_l_sum C) 2), ("_law_minus", .fn (F_l_minus C) 1)]
noncomputable def E_l_gap (C : CA) : SE := { N := ["one", "other", "gap"], sc := defScope st_l_gap, fn := fun _ => true, G := fun x => List.lookup x (G_l_gap C) }
noncomputable def F_l_gap (C : CA) : Fn := fnD stdM (orc C) st_l_gap (E_l_gap C)
noncomputable def B_l_gap (C : CA) : PSt := (sSeq (sAsg (eCall (F_l_sum C) 2 (aCons (eVar 0) (aCons (eCall (F_l_minus C) 1 (aCons (eVar 1) aNil)) aNil))) (.one 2)) (sSeq (sRet (eTup (aCons (eCB (one absD) (aCons (eOp2 ixD (eVar 2) (eC (.int 0))) aNil)) (aCons (eOp2 ixD (eVar 2) (eC (.int 1))) aNil)))) sNil))
theorem sem_l_gap (C : CA) : F_l_gap C = fnB (B_l_gap C) 3 := by kernel_rfl
/-! least -/
abbrev st_least : PySem.Stmt := topS 15
noncomputable def G_least (C : CA) : List (Str × GV) := [("common_divisor", .fn (F_common_divisor C) 2)]
noncomputable def E_least (C : CA) : SE := { N := ["over", "under", "common"], sc := defScope st_least, fn := fun _ => true, G := fun x => List.lookup x (G_least C) }
noncomputable def F_least (C : CA) : Fn := fnD stdM (orc C) st_least (E_least C)
noncomputable def B_least (C : CA) : PSt := (sSeq (sAsg (eCall (F_common_divisor C) 2 (aCons (eVar 0) (aCons (eVar 1) aNil))) (.one 2)) (sSeq (sIf (tVal (eOp2 (cmpD .Lt) (eVar 1) (eC (.int 0)))) (sSeq (sAsg (eOp1 negD (eVar 2)) (.one 2)) sNil) sNil) (sSeq (sRet (eTup (aCons (eOp2 (binD .FloorDiv) (eVar 0) (eVar 2)) (aCons (eOp2 (binD .FloorDiv) (eVar 1) (eVar 2)) aNil)))) sNil)))
theorem sem_least (C : CA) : F_least C = fnB (B_least C) 3 := by kernel_rfl
/-! minus -/
abbrev st_minus : PySem.Stmt := topS 16
noncomputable def G_minus (C : CA) : List (Str × GV) := [("least", .fn (F_least C) 2)]
noncomputable def E_minus (C : CA) : SE := { N := ["one", "other"], sc := defScope st_minus, fn := fun _ => true, G := fun x => List.lookup x (G_minus C) }
noncomputable def F_minus (C : CA) : Fn := fnD stdM (orc C) st_minus (E_minus C)
noncomputable def B_minus (C : CA) : PSt := (sSeq (sRet (eCall (F_least C) 2 (aCons (eOp2 (binD .Sub) (eOp2 (binD .Mult) (eOp2 ixD (eVar 0) (eC (.int 0))) (eOp2 ixD (eVar 1) (eC (.int 1)))) (eOp2 (binD .Mult) (eOp2 ixD (eVar 1) (eC (.int 0))) (eOp2 ixD (eVar 0) (eC (.int 1))))) (aCons (eOp2 (binD .Mult) (eOp2 ixD (eVar 0) (eC (.int 1))) (eOp2 ixD (eVar 1) (eC (.int 1)))) aNil)))) sNil)
theorem sem_minus (C : CA) : F_minus C = fnB (B_minus C) 2 := by kernel_rfl
/-! times -/
abbrev st_times : PySem.Stmt := topS 17
noncomputable def G_times (C : CA) : List (Str × GV) := [("least", .fn (F_least C) 2)]
noncomputable def E_times (C : CA) : SE := { N := ["one", "other"], sc := defScope st_times, fn := fun _ => true, G := fun x => List.lookup x (G_times C) }
noncomputable def F_times (C : CA) : Fn := fnD stdM (orc C) st_times (E_times C)
noncomputable def B_times (C : CA) : PSt := (sSeq (sRet (eCall (F_least C) 2 (aCons (eOp2 (binD .Mult) (eOp2 ixD (eVar 0) (eC (.int 0))) (eOp2 ixD (eVar 1) (eC (.int 0)))) (aCons (eOp2 (binD .Mult) (eOp2 ixD (eVar 0) (eC (.int 1))) (eOp2 ixD (eVar 1) (eC (.int 1)))) aNil)))) sNil)
theorem sem_times (C : CA) : F_times C = fnB (B_times C) 2 := by kernel_rfl
/-! error_of -/
abbrev st_error_of : PySem.Stmt := topS 27
noncomputable def G_error_of (C : CA) : List (Str × GV) := [("minus", .fn (F_minus C) 2), ("times", .fn (F_times C) 2)]
noncomputable def E_error_of (C : CA) : SE := { N := ["ratio", "found"], sc := defScope st_error_of, fn := fun _ => true, G := fun x => List.lookup x (G_error_of C) }
noncomputable def F_error_of (C : CA) : Fn := fnD stdM (orc C) st_error_of (E_error_of C)
noncomputable def B_error_of (C : CA) : PSt := (sSeq (sRet (eCall (F_minus C) 2 (aCons (eCall (F_times C) 2 (aCons (eVar 1) (aCons (eTup (aCons (eOp2 ixD (eVar 0) (eC (.int 1))) (aCons (eOp2 ixD (eVar 0) (eC (.int 0))) aNil))) aNil))) (aCons (eTup (aCons (eC (.int 1)) (aCons (eC (.int 1)) aNil))) aNil)))) sNil)
theorem sem_error_of (C : CA) : F_error_of C = fnB (B_error_of C) 2 := by kernel_rfl
/-! demand_ratio -/
abbrev st_demand_ratio : PySem.Stmt := topS 20
noncomputable def G_demand_ratio (C : CA) : List (Str × GV) := [("common_divisor", .fn (F_common_divisor C) 2), ("ArgumentError", .ex C.ArgumentError ["reason"]), ("isinstance", .bi biIsi), ("tuple", .bi biTuple), ("len", .bi biLen), ("all", .bi biAll), ("in_range", .fn (F_in_range C) 3), ("MAX_NUMBER", .val (.int 1000000000))]
noncomputable def E_demand_ratio (C : CA) : SE := { N := ["value", "part"], sc := defScope st_demand_ratio, fn := fun _ => true, G := fun x => List.lookup x (G_demand_ratio C) }
noncomputable def F_demand_ratio (C : CA) : Fn := fnD stdM (orc C) st_demand_ratio (E_demand_ratio C)
noncomputable def B_demand_ratio (C : CA) : PSt := (sSeq (sIf (tOr' (tNot' (tTru (eCB isiD (aCons (eVar 0) (aCons (eC (.ty "tuple")) aNil))))) (tOr' (tVal (eOp2 (cmpD .NotEq) (eCB (one lenD) (aCons (eVar 0) aNil)) (eC (.int 2)))) (tNot' (tTru (eCB (one allD) (aCons (eLc (iVal (eVar 0)) (.one 1) [1] tYes' (eCall (F_in_range C) 3 (aCons (eVar 1) (aCons (eC (.int 1)) (aCons (eC (.int 1000000000)) aNil))))) aNil)))))) (sSeq (sRaise C.ArgumentError ["reason"] (aCons (eC (.str "ratio")) aNil)) sNil) sNil) (sSeq (sIf (tVal (eOp2 (cmpD .NotEq) (eCall (F_common_divisor C) 2 (aCons (eOp2 ixD (eVar 0) (eC (.int 0))) (aCons (eOp2 ixD (eVar 0) (eC (.int 1))) aNil))) (eC (.int 1)))) (sSeq (sRaise C.ArgumentError ["reason"] (aCons (eC (.str "ratio")) aNil)) sNil) sNil) sNil))
theorem sem_demand_ratio (C : CA) : F_demand_ratio C = fnB (B_demand_ratio C) 2 := by kernel_rfl
/-! error -/
abbrev st_error : PySem.Stmt := topS 28
noncomputable def G_error (C : CA) : List (Str × GV) := [("error_of", .fn (F_error_of C) 2), ("is_bounded", .fn (F_is_bounded C) 2), ("MAX_NUMBER", .val (.int 1000000000)), ("ArgumentError", .ex C.ArgumentError ["reason"]), ("demand_ratio", .fn (F_demand_ratio C) 1)]
noncomputable def E_error (C : CA) : SE := { N := ["ratio", "found"], sc := defScope st_error, fn := fun _ => true, G := fun x => List.lookup x (G_error C) }
noncomputable def F_error (C : CA) : Fn := fnD stdM (orc C) st_error (E_error C)
noncomputable def B_error (C : CA) : PSt := (sSeq (sDrop (eCall (F_demand_ratio C) 1 (aCons (eVar 0) aNil))) (sSeq (sIf (tNot' (tTru (eCall (F_is_bounded C) 2 (aCons (eVar 1) (aCons (eC (.int 1000000000)) aNil))))) (sSeq (sRaise C.ArgumentError ["reason"] (aCons (eC (.str "found")) aNil)) sNil) sNil) (sSeq (sRet (eCall (F_error_of C) 2 (aCons (eVar 0) (aCons (eVar 1) aNil)))) sNil)))
theorem sem_error (C : CA) : F_error C = fnB (B_error C) 2 := by kernel_rfl
/-! terms -/
abbrev st_terms : PySem.Stmt := topS 29
noncomputable def G_terms (C : CA) : List (Str × GV) := [("tuple", .bi biTuple), ("demand_ratio", .fn (F_demand_ratio C) 1)]
noncomputable def E_terms (C : CA) : SE := { N := ["ratio", "found", "first", "second"], sc := defScope st_terms, fn := fun _ => true, G := fun x => List.lookup x (G_terms C) }
noncomputable def F_terms (C : CA) : Fn := fnD stdM (orc C) st_terms (E_terms C)
noncomputable def B_terms (C : CA) : PSt := (sSeq (sDrop (eCall (F_demand_ratio C) 1 (aCons (eVar 0) aNil))) (sSeq (sAsg (eLst aNil) (.one 1)) (sSeq (sAsg (eVar 0) (.many [2, 3])) (sSeq (sWhile (tVal (eOp2 (cmpD .Gt) (eVar 3) (eC (.int 0)))) (sSeq (sDrop (eMt miApp (eVar 1) (aCons (eOp2 (binD .FloorDiv) (eVar 2) (eVar 3)) aNil))) (sSeq (sPar 2 3 (eVar 3) (eOp2 (binD .Mod) (eVar 2) (eVar 3))) sNil))) (sSeq (sRet (eCB (one tupleD) (aCons (eVar 1) aNil))) sNil)))))
theorem sem_terms (C : CA) : F_terms C = fnB (B_terms C) 4 := by kernel_rfl
/-! stages -/
abbrev st_stages : PySem.Stmt := topS 30
noncomputable def G_stages (C : CA) : List (Str × GV) := [("tuple", .bi biTuple), ("terms", .fn (F_terms C) 1)]
noncomputable def E_stages (C : CA) : SE := { N := ["ratio", "found", "part", "before", "here", "after"], sc := defScope st_stages, fn := fun _ => true, G := fun x => List.lookup x (G_stages C) }
noncomputable def F_stages (C : CA) : Fn := fnD stdM (orc C) st_stages (E_stages C)
noncomputable def B_stages (C : CA) : PSt := (sSeq (sAsg (eLst aNil) (.one 1)) (sSeq (sAsg (eTup (aCons (eTup (aCons (eC (.int 1)) (aCons (eC (.int 0)) aNil))) (aCons (eC .non) aNil))) (.many [3, 4])) (sSeq (sFor (iVal (eCall (F_terms C) 1 (aCons (eVar 0) aNil))) (.one 2) (sSeq (sAsg (eIf (tVal (eOp2 (cmpD .Is) (eVar 4) (eC .non))) (eTup (aCons (eVar 2) (aCons (eC (.int 1)) aNil))) (eTup (aCons (eOp2 (binD .Add) (eOp2 (binD .Mult) (eVar 2) (eOp2 ixD (eVar 4) (eC (.int 0)))) (eOp2 ixD (eVar 3) (eC (.int 0)))) (aCons (eOp2 (binD .Add) (eOp2 (binD .Mult) (eVar 2) (eOp2 ixD (eVar 4) (eC (.int 1)))) (eOp2 ixD (eVar 3) (eC (.int 1)))) aNil)))) (.one 5)) (sSeq (sIf (tVal (eOp2 (cmpD .IsNot) (eVar 4) (eC .non))) (sSeq (sAsg (eVar 4) (.one 3)) sNil) sNil) (sSeq (sAsg (eVar 5) (.one 4)) (sSeq (sDrop (eMt miApp (eVar 1) (aCons (eVar 4) aNil))) sNil))))) (sSeq (sRet (eCB (one tupleD) (aCons (eLc (iVal (eVar 1)) (.one 2) [2] (tVal (eOp2 (cmpD .Gt) (eOp2 ixD (eVar 2) (eC (.int 0))) (eC (.int 0)))) (eVar 2)) aNil))) sNil))))
theorem sem_stages (C : CA) : F_stages C = fnB (B_stages C) 6 := by kernel_rfl
/-! is_part -/
abbrev st_is_part : PySem.Stmt := topS 40
noncomputable def G_is_part (C : CA) : List (Str × GV) := [("is_bounded", .fn (F_is_bounded C) 2)]
noncomputable def E_is_part (C : CA) : SE := { N := ["value", "most"], sc := defScope st_is_part, fn := fun _ => true, G := fun x => List.lookup x (G_is_part C) }
noncomputable def F_is_part (C : CA) : Fn := fnD stdM (orc C) st_is_part (E_is_part C)
noncomputable def B_is_part (C : CA) : PSt := (sSeq (sRet (eAnd (eCall (F_is_bounded C) 2 (aCons (eVar 0) (aCons (eVar 1) aNil))) (eOp2 (cmpD .LtE) (eOp2 ixD (eVar 0) (eC (.int 0))) (eOp2 ixD (eVar 0) (eC (.int 1)))))) sNil)
theorem sem_is_part (C : CA) : F_is_part C = fnB (B_is_part C) 2 := by kernel_rfl
/-! demand_part -/
abbrev st_demand_part : PySem.Stmt := topS 41
noncomputable def G_demand_part (C : CA) : List (Str × GV) := [("is_part", .fn (F_is_part C) 2), ("ArgumentError", .ex C.ArgumentError ["reason"])]
noncomputable def E_demand_part (C : CA) : SE := { N := ["most", "value"], sc := defScope st_demand_part, fn := fun _ => true, G := fun x => List.lookup x (G_demand_part C) }
noncomputable def F_demand_part (C : CA) : Fn := fnD stdM (orc C) st_demand_part (E_demand_part C)
noncomputable def B_demand_part (C : CA) : PSt := (sSeq (sIf (tNot' (tTru (eCall (F_is_part C) 2 (aCons (eVar 1) (aCons (eVar 0) aNil))))) (sSeq (sRaise C.ArgumentError ["reason"] (aCons (eC (.str "part")) aNil)) sNil) sNil) sNil)
theorem sem_demand_part (C : CA) : F_demand_part C = fnB (B_demand_part C) 2 := by kernel_rfl
/-! demand_bound -/
abbrev st_demand_bound : PySem.Stmt := topS 39
noncomputable def G_demand_bound (C : CA) : List (Str × GV) := [("in_range", .fn (F_in_range C) 3), ("MAX_BOUND", .val (.int 120)), ("ArgumentError", .ex C.ArgumentError ["reason"])]
noncomputable def E_demand_bound (C : CA) : SE := { N := ["most"], sc := defScope st_demand_bound, fn := fun _ => true, G := fun x => List.lookup x (G_demand_bound C) }
noncomputable def F_demand_bound (C : CA) : Fn := fnD stdM (orc C) st_demand_bound (E_demand_bound C)
noncomputable def B_demand_bound (C : CA) : PSt := (sSeq (sIf (tNot' (tTru (eCall (F_in_range C) 3 (aCons (eVar 0) (aCons (eC (.int 1)) (aCons (eC (.int 120)) aNil)))))) (sSeq (sRaise C.ArgumentError ["reason"] (aCons (eC (.str "most")) aNil)) sNil) sNil) sNil)
theorem sem_demand_bound (C : CA) : F_demand_bound C = fnB (B_demand_bound C) 1 := by kernel_rfl
/-! next_part -/
abbrev st_next_part : PySem.Stmt := topS 42
noncomputable def G_next_part (C : CA) : List (Str × GV) := [("range", .it), ("demand_part", .fn (F_demand_part C) 2), ("demand_bound", .fn (F_demand_bound C) 1)]
noncomputable def E_next_part (C : CA) : SE := { N := ["most", "part", "beside", "over", "under", "other"], sc := defScope st_next_part, fn := fun _ => true, G := fun x => List.lookup x (G_next_part C) }
noncomputable def F_next_part (C : CA) : Fn := fnD stdM (orc C) st_next_part (E_next_part C)
noncomputable def B_next_part (C : CA) : PSt := (sSeq (sDrop (eCall (F_demand_bound C) 1 (aCons (eVar 0) aNil))) (sSeq (sDrop (eCall (F_demand_part C) 2 (aCons (eVar 0) (aCons (eVar 1) aNil)))) (sSeq (sIf (tVal (eOp2 (cmpD .Eq) (eVar 1) (eTup (aCons (eC (.int 1)) (aCons (eC (.int 1)) aNil))))) (sSeq (sRet (eC .non)) sNil) sNil) (sSeq (sAsg (eVar 1) (.many [3, 4])) (sSeq (sAsg (eOp2 ixD (eLc (iOn rng3D (aCons (eVar 0) (aCons (eC (.int 0)) (aCons (eOp1 negD (eC (.int 1))) aNil)))) (.one 5) [5] (tVal (eOp2 (cmpD .Eq) (eOp2 (binD .Mod) (eOp2 (binD .Add) (eOp2 (binD .Mult) (eVar 3) (eVar 5)) (eC (.int 1))) (eVar 4)) (eC (.int 0)))) (eVar 5)) (eC (.int 0))) (.one 2)) (sSeq (sRet (eTup (aCons (eOp2 (binD .FloorDiv) (eOp2 (binD .Add) (eOp2 (binD .Mult) (eVar 3) (eVar 2)) (eC (.int 1))) (eVar 4)) (aCons (eVar 2) aNil)))) sNil))))))
theorem sem_next_part (C : CA) : F_next_part C = fnB (B_next_part C) 6 := by kernel_rfl
/-! all_parts -/
abbrev st_all_parts : PySem.Stmt := topS 43
noncomputable def G_all_parts (C : CA) : List (Str × GV) := [("tuple", .bi biTuple), ("next_part", .fn (F_next_part C) 2), ("demand_bound", .fn (F_demand_bound C) 1)]
noncomputable def E_all_parts (C : CA) : SE := { N := ["most", "found"], sc := defScope st_all_parts, fn := fun _ => true, G := fun x => List.lookup x (G_all_parts C) }
noncomputable def F_all_parts (C : CA) : Fn := fnD stdM (orc C) st_all_parts (E_all_parts C)
noncomputable def B_all_parts (C : CA) : PSt := (sSeq (sDrop (eCall (F_demand_bound C) 1 (aCons (eVar 0) aNil))) (sSeq (sAsg (eLst (aCons (eTup (aCons (eC (.int 1)) (aCons (eVar 0) aNil))) aNil)) (.one 1)) (sSeq (sWhile (tVal (eOp2 (cmpD .NotEq) (eOp2 ixD (eVar 1) (eOp1 negD (eC (.int 1)))) (eTup (aCons (eC (.int 1)) (aCons (eC (.int 1)) aNil))))) (sSeq (sDrop (eMt miApp (eVar 1) (aCons (eCall (F_next_part C) 2 (aCons (eVar 0) (aCons (eOp2 ixD (eVar 1) (eOp1 negD (eC (.int 1)))) aNil))) aNil))) sNil)) (sSeq (sRet (eCB (one tupleD) (aCons (eVar 1) aNil))) sNil))))
theorem sem_all_parts (C : CA) : F_all_parts C = fnB (B_all_parts C) 2 := by kernel_rfl
/-! steps_towards -/
abbrev st_steps_towards : PySem.Stmt := topS 22
noncomputable def G_steps_towards (C : CA) : List (Str × GV) := [("min", .bi biMin), ("zip", .it)]
noncomputable def E_steps_towards (C : CA) : SE := { N := ["low", "high", "ratio", "most", "up", "room", "lack", "gain", "fixed", "moved", "part", "step"], sc := defScope st_steps_towards, fn := fun _ => true, G := fun x => List.lookup x (G_steps_towards C) }
noncomputable def F_steps_towards (C : CA) : Fn := fnD stdM (orc C) st_steps_towards (E_steps_towards C)
noncomputable def B_steps_towards (C : CA) : PSt := (sSeq (sAsg (eIf (tTru (eVar 4)) (eTup (aCons (eVar 1) (aCons (eVar 0) aNil))) (eTup (aCons (eVar 0) (aCons (eVar 1) aNil)))) (.many [8, 9])) (sSeq (sAsg (eCB minD (aCons (eLc (iOn zpD (aCons (eVar 9) (aCons (eVar 8) aNil))) (.many [10, 11]) [10, 11] (tVal (eOp2 (cmpD .Gt) (eVar 11) (eC (.int 0)))) (eOp2 (binD .FloorDiv) (eOp2 (binD .Sub) (eVar 3) (eVar 10)) (eVar 11))) aNil)) (.one 5)) (sSeq (sAsg (eOp2 (binD .Sub) (eOp2 (binD .Mult) (eOp2 ixD (eVar 2) (eC (.int 0))) (eOp2 ixD (eVar 9) (eC (.int 1)))) (eOp2 (binD .Mult) (eOp2 ixD (eVar 2) (eC (.int 1))) (eOp2 ixD (eVar 9) (eC (.int 0))))) (.one 6)) (sSeq (sAsg (eOp2 (binD .Sub) (eOp2 (binD .Mult) (eOp2 ixD (eVar 2) (eC (.int 1))) (eOp2 ixD (eVar 8) (eC (.int 0)))) (eOp2 (binD .Mult) (eOp2 ixD (eVar 2) (eC (.int 0))) (eOp2 ixD (eVar 8) (eC (.int 1))))) (.one 7)) (sSeq (sIf (tNot' (tTru (eVar 4))) (sSeq (sPar 6 7 (eOp1 negD (eVar 6)) (eOp1 negD (eVar 7))) sNil) sNil) (sSeq (sRet (eIf (tVal (eOp2 (cmpD .Eq) (eVar 7) (eC (.int 0)))) (eVar 5) (eCB minD (aCons (eVar 5) (aCons (eOp2 (binD .FloorDiv) (eVar 6) (eVar 7)) aNil))))) sNil))))))
theorem sem_steps_towards (C : CA) : F_steps_towards C = fnB (B_steps_towards C) 12 := by kernel_rfl
/-! neighbours -/
abbrev st_neighbours : PySem.Stmt := topS 23
noncomputable def G_neighbours (C : CA) : List (Str × GV) := [("steps_towards", .fn (F_steps_towards C) 5)]
noncomputable def E_neighbours (C : CA) : SE := { N := ["ratio", "most", "low", "high", "going", "up", "count"], sc := defScope st_neighbours, fn := fun _ => true, G := fun x => List.lookup x (G_neighbours C) }
noncomputable def F_neighbours (C : CA) : Fn := fnD stdM (orc C) st_neighbours (E_neighbours C)
noncomputable def B_neighbours (C : CA) : PSt := (sSeq (sAsg (eTup (aCons (eC (.int 0)) (aCons (eC (.int 1)) aNil))) (.one 2)) (sSeq (sAsg (eTup (aCons (eC (.int 1)) (aCons (eC (.int 0)) aNil))) (.one 3)) (sSeq (sAsg (eC (.bl true)) (.one 4)) (sSeq (sWhile (tAnd' (tTru (eVar 4)) (tAnd' (tVal (eOp2 (cmpD .NotEq) (eVar 2) (eVar 0))) (tVal (eOp2 (cmpD .NotEq) (eVar 3) (eVar 0))))) (sSeq (sAsg (eC (.bl false)) (.one 4)) (sSeq (sFor (iVal (eTup (aCons (eC (.bl true)) (aCons (eC (.bl false)) aNil)))) (.one 5) (sSeq (sAsg (eCall (F_steps_towards C) 5 (aCons (eVar 2) (aCons (eVar 3) (aCons (eVar 0) (aCons (eVar 1) (aCons (eVar 5) aNil)))))) (.one 6)) (sSeq (sIf (tVal (eOp2 (cmpD .Gt) (eVar 6) (eC (.int 0)))) (sSeq (sAsg (eC (.bl true)) (.one 4)) (sSeq (sIf (tTru (eVar 5)) (sSeq (sAsg (eTup (aCons (eOp2 (binD .Add) (eOp2 ixD (eVar 2) (eC (.int 0))) (eOp2 (binD .Mult) (eVar 6) (eOp2 ixD (eVar 3) (eC (.int 0))))) (aCons (eOp2 (binD .Add) (eOp2 ixD (eVar 2) (eC (.int 1))) (eOp2 (binD .Mult) (eVar 6) (eOp2 ixD (eVar 3) (eC (.int 1))))) aNil))) (.one 2)) sNil) (sSeq (sAsg (eTup (aCons (eOp2 (binD .Add) (eOp2 ixD (eVar 3) (eC (.int 0))) (eOp2 (binD .Mult) (eVar 6) (eOp2 ixD (eVar 2) (eC (.int 0))))) (aCons (eOp2 (binD .Add) (eOp2 ixD (eVar 3) (eC (.int 1))) (eOp2 (binD .Mult) (eVar 6) (eOp2 ixD (eVar 2) (eC (.int 1))))) aNil))) (.one 3)) sNil)) sNil)) sNil) sNil))) sNil))) (sSeq (sRet (eTup (aCons (eVar 2) (aCons (eVar 3) aNil)))) sNil)))))
theorem sem_neighbours (C : CA) : F_neighbours C = fnB (B_neighbours C) 7 := by kernel_rfl
/-! demand_most -/
abbrev st_demand_most : PySem.Stmt := topS 21
noncomputable def G_demand_most (C : CA) : List (Str × GV) := [("in_range", .fn (F_in_range C) 3), ("MAX_TERM", .val (.int 1000000)), ("ArgumentError", .ex C.ArgumentError ["reason"])]
noncomputable def E_demand_most (C : CA) : SE := { N := ["most"], sc := defScope st_demand_most, fn := fun _ => true, G := fun x => List.lookup x (G_demand_most C) }
noncomputable def F_demand_most (C : CA) : Fn := fnD stdM (orc C) st_demand_most (E_demand_most C)
noncomputable def B_demand_most (C : CA) : PSt := (sSeq (sIf (tNot' (tTru (eCall (F_in_range C) 3 (aCons (eVar 0) (aCons (eC (.int 1)) (aCons (eC (.int 1000000)) aNil)))))) (sSeq (sRaise C.ArgumentError ["reason"] (aCons (eC (.str "most")) aNil)) sNil) sNil) sNil)
theorem sem_demand_most (C : CA) : F_demand_most C = fnB (B_demand_most C) 1 := by kernel_rfl
/-! around -/
abbrev st_around : PySem.Stmt := topS 24
noncomputable def G_around (C : CA) : List (Str × GV) := [("neighbours", .fn (F_neighbours C) 2), ("max", .bi biMax), ("demand_most", .fn (F_demand_most C) 1), ("demand_ratio", .fn (F_demand_ratio C) 1)]
noncomputable def E_around (C : CA) : SE := { N := ["ratio", "most", "low", "high"], sc := defScope st_around, fn := fun _ => true, G := fun x => List.lookup x (G_around C) }
noncomputable def F_around (C : CA) : Fn := fnD stdM (orc C) st_around (E_around C)
noncomputable def B_around (C : CA) : PSt := (sSeq (sDrop (eCall (F_demand_ratio C) 1 (aCons (eVar 0) aNil))) (sSeq (sDrop (eCall (F_demand_most C) 1 (aCons (eVar 1) aNil))) (sSeq (sIf (tVal (eOp2 (cmpD .LtE) (eCB maxD (aCons (eVar 0) aNil)) (eVar 1))) (sSeq (sRet (eTup (aCons (eVar 0) (aCons (eVar 0) aNil)))) sNil) sNil) (sSeq (sAsg (eCall (F_neighbours C) 2 (aCons (eVar 0) (aCons (eVar 1) aNil))) (.many [2, 3])) (sSeq (sRet (eTup (aCons (eIf (tVal (eOp2 (cmpD .Eq) (eOp2 ixD (eVar 2) (eC (.int 0))) (eC (.int 0)))) (eC .non) (eVar 2)) (aCons (eIf (tVal (eOp2 (cmpD .Eq) (eOp2 ixD (eVar 3) (eC (.int 1))) (eC (.int 0)))) (eC .non) (eVar 3)) aNil)))) sNil)))))
theorem sem_around (C : CA) : F_around C = fnB (B_around C) 4 := by kernel_rfl
/-! _law_more -/
abbrev st_l_more : PySem.Stmt := topS 48
noncomputable def G_l_more (C : CA) : List (Str × GV) := [("range", .it), ("int", .bi biInt), ("len", .bi biLen)]
noncomputable def E_l_more (C : CA) : SE := { N := ["draws", "place", "mixed", "k"], sc := defScope st_l_more, fn := fun _ => true, G := fun x => List.lookup x (G_l_more C) }
noncomputable def F_l_more (C : CA) : Fn := fnD stdM (orc C) st_l_more (E_l_more C)
noncomputable def B_l_more (C : CA) : PSt := (sSeq (sAsg (eOp2 (binD .Mod) (eCB (one intD) (aCons (eOp2 (binD .Add) (eOp2 (binD .Add) (eOp2 (binD .Mult) (eVar 1) (eC (.int 48271))) (eCB (one lenD) (aCons (eVar 0) aNil))) (eC (.int 11))) aNil)) (eC (.int 2147483629))) (.one 2)) (sSeq (sFor (iOn rng1D (aCons (eC (.int 3)) aNil)) (.one 3) (sSeq (sIf (tTru (eVar 0)) (sSeq (sAsg (eOp2 (binD .Add) (eVar 2) (eOp2 ixD (eVar 0) (eOp2 (binD .Mod) (eCB (one intD) (aCons (eOp2 (binD .Add) (eOp2 (binD .Mult) (eVar 1) (eOp2 (binD .Add) (eVar 3) (eC (.int 5)))) (eVar 3)) aNil)) (eCB (one lenD) (aCons (eVar 0) aNil))))) (.one 2)) sNil) sNil) (sSeq (sAsg (eOp2 (binD .Mod) (eCB (one intD) (aCons (eOp2 (binD .Add) (eOp2 (binD .Add) (eOp2 (binD .Mult) (eVar 2) (eC (.int 16807))) (eOp2 (binD .Mult) (eC (.int 69621)) (eVar 3))) (eC (.int 5))) aNil)) (eC (.int 2147483629))) (.one 2)) sNil))) (sSeq (sRet (eOp2 (binD .FloorDiv) (eVar 2) (eC (.int 1009)))) sNil)))
theorem sem_l_more (C : CA) : F_l_more C = fnB (B_l_more C) 4 := by kernel_rfl
/-! _law_take -/
abbrev st_l_take : PySem.Stmt := topS 49
noncomputable def G_l_take (C : CA) : List (Str × GV) := [("int", .bi biInt), ("len", .bi biLen), ("_law_more", .fn (F_l_more C) 2)]
noncomputable def E_l_take (C : CA) : SE := { N := ["draws", "at", "many", "place"], sc := defScope st_l_take, fn := fun _ => true, G := fun x => List.lookup x (G_l_take C) }
noncomputable def F_l_take (C : CA) : Fn := fnD stdM (orc C) st_l_take (E_l_take C)
noncomputable def B_l_take (C : CA) : PSt := (sSeq (sAsg (eOp2 ixD (eVar 1) (eC (.int 0))) (.one 3)) (sSeq (sSet (eOp2 (binD .Add) (eVar 3) (eC (.int 1))) (eVar 1) (eC (.int 0))) (sSeq (sRet (eOp2 (binD .Mod) (eCB (one intD) (aCons (eIf (tVal (eOp2 (cmpD .Lt) (eVar 3) (eCB (one lenD) (aCons (eVar 0) aNil)))) (eOp2 ixD (eVar 0) (eVar 3)) (eCall (F_l_more C) 2 (aCons (eVar 0) (aCons (eVar 3) aNil)))) aNil)) (eVar 2))) sNil)))
theorem sem_l_take (C : CA) : F_l_take C = fnB (B_l_take C) 4 := by kernel_rfl
/-! rows_from -/
abbrev st_rows_from : PySem.Stmt := topS 33
noncomputable def G_rows_from (r : Fn) (C : CA) : List (Str × GV) := [("range", .it), ("len", .bi biLen), ("rows_from", .fn r 2)]
noncomputable def E_rows_from (r : Fn) (C : CA) : SE := { N := ["places", "count", "found", "number", "rest"], sc := defScope st_rows_from, fn := fun _ => true, G := fun x => List.lookup x (G_rows_from r C) }
noncomputable def R_rows_from (C : CA) : Nat → Fn
  | 0 => fun _ _ => .bad
  | k + 1 => fnD stdM (orc C) st_rows_from (E_rows_from (R_rows_from C k) C)
noncomputable def F_rows_from (C : CA) : Fn := R_rows_from C 8
noncomputable def B_rows_from (r : Fn) (C : CA) : PSt := (sSeq (sIf (tVal (eOp2 (cmpD .Eq) (eVar 1) (eC (.int 0)))) (sSeq (sRet (eLst (aCons (eTup aNil) aNil))) sNil) sNil) (sSeq (sAsg (eLst aNil) (.one 2)) (sSeq (sFor (iOn rng1D (aCons (eCB (one lenD) (aCons (eVar 0) aNil)) aNil)) (.one 3) (sSeq (sAug .Add 2 (eLc (iVal (eCall r 2 (aCons (eSl (eVar 0) (oSome (eOp2 (binD .Add) (eVar 3) (eC (.int 1)))) oNone) (aCons (eOp2 (binD .Sub) (eVar 1) (eC (.int 1))) aNil)))) (.one 4) [4] tYes' (eOp2 (binD .Add) (eTup (aCons (eOp2 ixD (eVar 0) (eVar 3)) aNil)) (eVar 4)))) sNil)) (sSeq (sRet (eVar 2)) sNil))))
theorem semr_rows_from (r : Fn) (C : CA) : fnD stdM (orc C) st_rows_from (E_rows_from r C) = fnB (B_rows_from r C) 5 := by kernel_rfl
theorem sem_rows_from (C : CA) (k : Nat) : R_rows_from C (k + 1) = fnB (B_rows_from (R_rows_from C k) C) 5 := semr_rows_from _ C
/-! teeth_of -/
abbrev st_teeth_of : PySem.Stmt := topS 34
noncomputable def G_teeth_of (C : CA) : List (Str × GV) := []
noncomputable def E_teeth_of (C : CA) : SE := { N := ["stock", "row", "found", "place"], sc := defScope st_teeth_of, fn := fun _ => true, G := fun x => List.lookup x (G_teeth_of C) }
noncomputable def F_teeth_of (C : CA) : Fn := fnD stdM (orc C) st_teeth_of (E_teeth_of C)
noncomputable def B_teeth_of (C : CA) : PSt := (sSeq (sAsg (eC (.int 1)) (.one 2)) (sSeq (sFor (iVal (eVar 1)) (.one 3) (sSeq (sAsg (eOp2 (binD .Mult) (eVar 2) (eOp2 ixD (eVar 0) (eVar 3))) (.one 2)) sNil)) (sSeq (sRet (eVar 2)) sNil)))
theorem sem_teeth_of (C : CA) : F_teeth_of C = fnB (B_teeth_of C) 4 := by kernel_rfl
/-! choices_of -/
abbrev st_choices_of : PySem.Stmt := topS 35
noncomputable def G_choices_of (C : CA) : List (Str × GV) := [("rows_from", .fn (F_rows_from C) 2), ("least", .fn (F_least C) 2), ("teeth_of", .fn (F_teeth_of C) 2), ("list", .bi biList), ("range", .it), ("len", .bi biLen)]
noncomputable def E_choices_of (C : CA) : SE := { N := ["stock", "pairs", "places", "found", "driving", "left", "over", "driven", "place"], sc := defScope st_choices_of, fn := fun _ => true, G := fun x => List.lookup x (G_choices_of C) }
noncomputable def F_choices_of (C : CA) : Fn := fnD stdM (orc C) st_choices_of (E_choices_of C)
noncomputable def B_choices_of (C : CA) : PSt := (sSeq (sAsg (eOp1 lstRg1D (eCB (one lenD) (aCons (eVar 0) aNil))) (.one 2)) (sSeq (sAsg (eLst aNil) (.one 3)) (sSeq (sFor (iVal (eCall (F_rows_from C) 2 (aCons (eVar 2) (aCons (eVar 1) aNil)))) (.one 4) (sSeq (sAsg (eLc (iVal (eVar 2)) (.one 8) [8] (tVal (eOp2 (cmpD .NotIn) (eVar 8) (eVar 4))) (eVar 8)) (.one 5)) (sSeq (sAsg (eCall (F_teeth_of C) 2 (aCons (eVar 0) (aCons (eVar 4) aNil))) (.one 6)) (sSeq (sFor (iVal (eCall (F_rows_from C) 2 (aCons (eVar 5) (aCons (eVar 1) aNil)))) (.one 7) (sSeq (sDrop (eMt miApp (eVar 3) (aCons (eTup (aCons (eVar 4) (aCons (eVar 7) (aCons (eCall (F_least C) 2 (aCons (eVar 6) (aCons (eCall (F_teeth_of C) 2 (aCons (eVar 0) (aCons (eVar 7) aNil))) aNil))) aNil)))) aNil))) sNil)) sNil)))) (sSeq (sRet (eVar 3)) sNil))))
theorem sem_choices_of (C : CA) : F_choices_of C = fnB (B_choices_of C) 9 := by kernel_rfl
/-! is_below -/
abbrev st_is_below : PySem.Stmt := topS 18
noncomputable def G_is_below (C : CA) : List (Str × GV) := []
noncomputable def E_is_below (C : CA) : SE := { N := ["one", "other"], sc := defScope st_is_below, fn := fun _ => true, G := fun x => List.lookup x (G_is_below C) }
noncomputable def F_is_below (C : CA) : Fn := fnD stdM (orc C) st_is_below (E_is_below C)
noncomputable def B_is_below (C : CA) : PSt := (sSeq (sRet (eOp2 (cmpD .Lt) (eOp2 (binD .Mult) (eOp2 ixD (eVar 0) (eC (.int 0))) (eOp2 ixD (eVar 1) (eC (.int 1)))) (eOp2 (binD .Mult) (eOp2 ixD (eVar 1) (eC (.int 0))) (eOp2 ixD (eVar 0) (eC (.int 1)))))) sNil)
theorem sem_is_below (C : CA) : F_is_below C = fnB (B_is_below C) 2 := by kernel_rfl
/-! far_from -/
abbrev st_far_from : PySem.Stmt := topS 36
noncomputable def G_far_from (C : CA) : List (Str × GV) := [("minus", .fn (F_minus C) 2)]
noncomputable def E_far_from (C : CA) : SE := { N := ["ratio", "found", "gap"], sc := defScope st_far_from, fn := fun _ => true, G := fun x => List.lookup x (G_far_from C) }
noncomputable def F_far_from (C : CA) : Fn := fnD stdM (orc C) st_far_from (E_far_from C)
noncomputable def B_far_from (C : CA) : PSt := (sSeq (sAsg (eCall (F_minus C) 2 (aCons (eVar 1) (aCons (eVar 0) aNil))) (.one 2)) (sSeq (sRet (eIf (tVal (eOp2 (cmpD .GtE) (eOp2 ixD (eVar 2) (eC (.int 0))) (eC (.int 0)))) (eVar 2) (eTup (aCons (eOp1 negD (eOp2 ixD (eVar 2) (eC (.int 0)))) (aCons (eOp2 ixD (eVar 2) (eC (.int 1))) aNil))))) sNil))
theorem sem_far_from (C : CA) : F_far_from C = fnB (B_far_from C) 3 := by kernel_rfl
/-! demand_stock -/
abbrev st_demand_stock : PySem.Stmt := topS 32
noncomputable def G_demand_stock (C : CA) : List (Str × GV) := [("in_range", .fn (F_in_range C) 3), ("MAX_PAIRS", .val (.int 3)), ("len", .bi biLen), ("ArgumentError", .ex C.ArgumentError ["reason"]), ("all", .bi biAll), ("MAX_TEETH", .val (.int 1000)), ("isinstance", .bi biIsi), ("tuple", .bi biTuple), ("MAX_STOCK", .val (.int 10))]
noncomputable def E_demand_stock (C : CA) : SE := { N := ["stock", "pairs", "teeth"], sc := defScope st_demand_stock, fn := fun _ => true, G := fun x => List.lookup x (G_demand_stock C) }
noncomputable def F_demand_stock (C : CA) : Fn := fnD stdM (orc C) st_demand_stock (E_demand_stock C)
noncomputable def B_demand_stock (C : CA) : PSt := (sSeq (sIf (tOr' (tNot' (tTru (eCB isiD (aCons (eVar 0) (aCons (eC (.ty "tuple")) aNil))))) (tNot' (tVal (eChain (cmpD .LtE) (cmpD .LtE) (eC (.int 2)) (eCB (one lenD) (aCons (eVar 0) aNil)) (eC (.int 10)))))) (sSeq (sRaise C.ArgumentError ["reason"] (aCons (eC (.str "stock")) aNil)) sNil) sNil) (sSeq (sIf (tNot' (tTru (eCB (one allD) (aCons (eLc (iVal (eVar 0)) (.one 2) [2] tYes' (eCall (F_in_range C) 3 (aCons (eVar 2) (aCons (eC (.int 1)) (aCons (eC (.int 1000)) aNil))))) aNil)))) (sSeq (sRaise C.ArgumentError ["reason"] (aCons (eC (.str "stock")) aNil)) sNil) sNil) (sSeq (sIf (tOr' (tNot' (tTru (eCall (F_in_range C) 3 (aCons (eVar 1) (aCons (eC (.int 1)) (aCons (eC (.int 3)) aNil)))))) (tVal (eOp2 (cmpD .Gt) (eOp2 (binD .Mult) (eC (.int 2)) (eVar 1)) (eCB (one lenD) (aCons (eVar 0) aNil))))) (sSeq (sRaise C.ArgumentError ["reason"] (aCons (eC (.str "pairs")) aNil)) sNil) sNil) sNil)))
theorem sem_demand_stock (C : CA) : F_demand_stock C = fnB (B_demand_stock C) 3 := by kernel_rfl
/-! best_train -/
abbrev st_best_train : PySem.Stmt := topS 37
noncomputable def G_best_train (C : CA) : List (Str × GV) := [("choices_of", .fn (F_choices_of C) 2), ("is_below", .fn (F_is_below C) 2), ("far_from", .fn (F_far_from C) 2), ("demand_stock", .fn (F_demand_stock C) 2), ("demand_ratio", .fn (F_demand_ratio C) 1)]
noncomputable def E_best_train (C : CA) : SE := { N := ["ratio", "stock", "pairs", "best", "choice", "gap"], sc := defScope st_best_train, fn := fun _ => true, G := fun x => List.lookup x (G_best_train C) }
noncomputable def F_best_train (C : CA) : Fn := fnD stdM (orc C) st_best_train (E_best_train C)
noncomputable def B_best_train (C : CA) : PSt := (sSeq (sDrop (eCall (F_demand_ratio C) 1 (aCons (eVar 0) aNil))) (sSeq (sDrop (eCall (F_demand_stock C) 2 (aCons (eVar 1) (aCons (eVar 2) aNil)))) (sSeq (sAsg (eC .non) (.one 3)) (sSeq (sFor (iVal (eCall (F_choices_of C) 2 (aCons (eVar 1) (aCons (eVar 2) aNil)))) (.one 4) (sSeq (sAsg (eCall (F_far_from C) 2 (aCons (eVar 0) (aCons (eOp2 ixD (eVar 4) (eC (.int 2))) aNil))) (.one 5)) (sSeq (sIf (tOr' (tVal (eOp2 (cmpD .Is) (eVar 3) (eC .non))) (tTru (eCall (F_is_below C) 2 (aCons (eVar 5) (aCons (eOp2 ixD (eVar 3) (eC (.int 0))) aNil))))) (sSeq (sAsg (eTup (aCons (eVar 5) (aCons (eVar 4) aNil))) (.one 3)) sNil) sNil) sNil))) (sSeq (sRet (eOp2 ixD (eVar 3) (eC (.int 1)))) sNil)))))
theorem sem_best_train (C : CA) : F_best_train C = fnB (B_best_train C) 6 := by kernel_rfl
/-! nearest -/
abbrev st_nearest : PySem.Stmt := topS 26
noncomputable def G_nearest (C : CA) : List (Str × GV) := [("is_below", .fn (F_is_below C) 2), ("minus", .fn (F_minus C) 2), ("around", .fn (F_around C) 2)]
noncomputable def E_nearest (C : CA) : SE := { N := ["ratio", "most", "low", "high", "left", "right"], sc := defScope st_nearest, fn := fun _ => true, G := fun x => List.lookup x (G_nearest C) }
noncomputable def F_nearest (C : CA) : Fn := fnD stdM (orc C) st_nearest (E_nearest C)
noncomputable def B_nearest (C : CA) : PSt := (sSeq (sAsg (eCall (F_around C) 2 (aCons (eVar 0) (aCons (eVar 1) aNil))) (.many [2, 3])) (sSeq (sIf (tOr' (tVal (eOp2 (cmpD .Is) (eVar 2) (eC .non))) (tVal (eOp2 (cmpD .Is) (eVar 3) (eC .non)))) (sSeq (sRet (eIf (tVal (eOp2 (cmpD .Is) (eVar 2) (eC .non))) (eVar 3) (eVar 2))) sNil) sNil) (sSeq (sPar 4 5 (eCall (F_minus C) 2 (aCons (eVar 0) (aCons (eVar 2) aNil))) (eCall (F_minus C) 2 (aCons (eVar 3) (aCons (eVar 0) aNil)))) (sSeq (sRet (eIf (tTru (eCall (F_is_below C) 2 (aCons (eVar 5) (aCons (eVar 4) aNil)))) (eVar 3) (eVar 2))) sNil))))
theorem sem_nearest (C : CA) : F_nearest C = fnB (B_nearest C) 6 := by kernel_rfl
/-! _law_draws -/
abbrev st_l_draws : PySem.Stmt := topS 47
noncomputable def G_l_draws (C : CA) : List (Str × GV) := [("range", .it), ("int", .bi biInt), ("abs", .bi biAbs)]
noncomputable def E_l_draws (C : CA) : SE := { N := ["script", "draws", "cell", "rest", "k", "mixed"], sc := defScope st_l_draws, fn := fun _ => true, G := fun x => List.lookup x (G_l_draws C) }
noncomputable def F_l_draws (C : CA) : Fn := fnD stdM (orc C) st_l_draws (E_l_draws C)
noncomputable def B_l_draws (C : CA) : PSt := (sSeq (sAsg (eLst aNil) (.one 1)) (sSeq (sFor (iVal (eSl (eVar 0) oNone (oSome (eC (.int 63))))) (.one 2) (sSeq (sAsg (eCB (one absD) (aCons (eVar 2) aNil)) (.one 3)) (sSeq (sIf (tVal (eOp2 (cmpD .GtE) (eVar 3) (eOp2 (binD .Pow) (eC (.int 10)) (eC (.int 18))))) (sSeq (sFor (iOn rng1D (aCons (eC (.int 60)) aNil)) (.one 4) (sSeq (sIf (tVal (eOp2 (cmpD .Gt) (eVar 3) (eC (.int 0)))) (sSeq (sDrop (eMt miApp (eVar 1) (aCons (eOp2 (binD .Mod) (eCB (one intD) (aCons (eVar 3) aNil)) (eC (.int 1009))) aNil))) (sSeq (sAsg (eOp2 (binD .FloorDiv) (eVar 3) (eC (.int 1009))) (.one 3)) sNil)) sNil) sNil)) sNil) (sSeq (sAsg (eOp2 (binD .Mod) (eCB (one intD) (aCons (eOp2 (binD .Add) (eOp2 (binD .Mult) (eVar 3) (eC (.int 48271))) (eC (.int 11))) aNil)) (eC (.int 2147483647))) (.one 5)) (sSeq (sFor (iOn rng1D (aCons (eC (.int 12)) aNil)) (.one 4) (sSeq (sAsg (eOp2 (binD .Mod) (eCB (one intD) (aCons (eOp2 (binD .Add) (eOp2 (binD .Add) (eOp2 (binD .Mult) (eVar 5) (eC (.int 16807))) (eOp2 (binD .Mult) (eC (.int 69621)) (eVar 4))) (eC (.int 5))) aNil)) (eC (.int 2147483629))) (.one 5)) (sSeq (sDrop (eMt miApp (eVar 1) (aCons (eOp2 (binD .FloorDiv) (eVar 5) (eC (.int 1009))) aNil))) sNil))) sNil))) sNil))) (sSeq (sRet (eVar 1)) sNil)))
theorem sem_l_draws (C : CA) : F_l_draws C = fnB (B_l_draws C) 6 := by kernel_rfl
/-! law -/
abbrev st_law : PySem.Stmt := topS 59
noncomputable def G_law (C : CA) : List (Str × GV) := [("range", .it), ("parents", .fn (F_parents C) 1), ("len", .bi biLen), ("are_neighbours", .fn (F_are_neighbours C) 2), ("_law_less", .fn (F_l_less C) 2), ("_law_gap", .fn (F_l_gap C) 2), ("error", .fn (F_error C) 2), ("stages", .fn (F_stages C) 1), ("repr", .bi biRepr), ("next_part", .fn (F_next_part C) 2), ("all_parts", .fn (F_all_parts C) 1), ("around", .fn (F_around C) 2), ("_law_take", .fn (F_l_take C) 3), ("best_train", .fn (F_best_train C) 3), ("nearest", .fn (F_nearest C) 2), ("tuple", .bi biTuple), ("_law_fraction", .fn (F_l_fraction C) 2), ("_law_draws", .fn (F_l_draws C) 1)]
noncomputable def E_law (C : CA) : SE := { N := ["script", "draws", "at", "turn", "ratio", "most", "stock", "found", "best", "bound", "rows", "k", "below", "above", "low", "high"], sc := defScope st_law, fn := fun _ => true, G := fun x => List.lookup x (G_law C) }
noncomputable def F_law (C : CA) : Fn := fnD stdM (orc C) st_law (E_law C)
noncomputable def B_law (C : CA) : PSt := (sSeq (sAsg (eCall (F_l_draws C) 1 (aCons (eVar 0) aNil)) (.one 1)) (sSeq (sAsg (eLst (aCons (eC (.int 0)) aNil)) (.one 2)) (sSeq (sFor (iOn rng1D (aCons (eC (.int 3)) aNil)) (.one 3) (sSeq (sAsg (eCall (F_l_fraction C) 2 (aCons (eOp2 (binD .Add) (eC (.int 1)) (eCall (F_l_take C) 3 (aCons (eVar 1) (aCons (eVar 2) (aCons (eC (.int 100)) aNil))))) (aCons (eOp2 (binD .Add) (eC (.int 1)) (eCall (F_l_take C) 3 (aCons (eVar 1) (aCons (eVar 2) (aCons (eC (.int 100)) aNil))))) aNil))) (.one 4)) (sSeq (sAsg (eOp2 (binD .Add) (eC (.int 3)) (eCall (F_l_take C) 3 (aCons (eVar 1) (aCons (eVar 2) (aCons (eC (.int 4)) aNil))))) (.one 5)) (sSeq (sAsg (eOp2 tupRg2D (eC (.int 1)) (eOp2 (binD .Add) (eVar 5) (eC (.int 1)))) (.one 6)) (sSeq (sAsg (eCall (F_nearest C) 2 (aCons (eVar 4) (aCons (eVar 5) aNil))) (.one 7)) (sSeq (sAsg (eCall (F_best_train C) 3 (aCons (eVar 4) (aCons (eVar 6) (aCons (eC (.int 1)) aNil)))) (.one 8)) (sSeq (sIf (tAnd' (tVal (eOp2 (cmpD .NotEq) (eVar 7) (eTup (aCons (eC (.int 1)) (aCons (eC (.int 1)) aNil))))) (tVal (eOp2 (cmpD .NotEq) (eCall (F_l_gap C) 2 (aCons (eVar 7) (aCons (eVar 4) aNil))) (eCall (F_l_gap C) 2 (aCons (eOp2 ixD (eVar 8) (eC (.int 2))) (aCons (eVar 4) aNil)))))) (sSeq (sRet (eC (.bl false))) sNil) sNil) (sSeq (sAsg (eOp2 (binD .Add) (eC (.int 2)) (eCall (F_l_take C) 3 (aCons (eVar 1) (aCons (eVar 2) (aCons (eC (.int 30)) aNil))))) (.one 9)) (sSeq (sAsg (eCall (F_around C) 2 (aCons (eVar 4) (aCons (eVar 9) aNil))) (.many [12, 13])) (sSeq (sIf (tAnd' (tVal (eOp2 (cmpD .Lt) (eOp2 ixD (eVar 4) (eC (.int 0))) (eOp2 ixD (eVar 4) (eC (.int 1))))) (tAnd' (tVal (eOp2 (cmpD .IsNot) (eVar 12) (eC .non))) (tAnd' (tVal (eOp2 (cmpD .IsNot) (eVar 13) (eC .non))) (tVal (eOp2 (cmpD .NotEq) (eVar 12) (eVar 13)))))) (sSeq (sIf (tOr' (tVal (eOp2 (cmpD .NotEq) (eCB (one reprD) (aCons (eCall (F_next_part C) 2 (aCons (eVar 9) (aCons (eVar 12) aNil))) aNil)) (eCB (one reprD) (aCons (eVar 13) aNil)))) (tOr' (tNot' (tTru (eCall (F_are_neighbours C) 2 (aCons (eVar 12) (aCons (eVar 13) aNil))))) (tVal (eOp2 (cmpD .NotIn) (eVar 13) (eCall (F_all_parts C) 1 (aCons (eVar 9) aNil)))))) (sSeq (sRet (eC (.bl false))) sNil) sNil) sNil) sNil) (sSeq (sAsg (eCall (F_stages C) 1 (aCons (eVar 4) aNil)) (.one 10)) (sSeq (sIf (tOr' (tVal (eOp2 (cmpD .NotEq) (eOp2 ixD (eVar 10) (eOp2 (binD .Sub) (eCB (one lenD) (aCons (eVar 10) aNil)) (eC (.int 1)))) (eVar 4))) (tVal (eOp2 (cmpD .NotEq) (eCall (F_error C) 2 (aCons (eVar 4) (aCons (eVar 4) aNil))) (eTup (aCons (eC (.int 0)) (aCons (eC (.int 1)) aNil)))))) (sSeq (sRet (eC (.bl false))) sNil) sNil) (sSeq (sFor (iOn rng1D (aCons (eOp2 (binD .Sub) (eCB (one lenD) (aCons (eVar 10) aNil)) (eC (.int 1))) aNil)) (.one 11) (sSeq (sIf (tOr' (tVal (eOp2 (cmpD .IsNot) (eCall (F_are_neighbours C) 2 (aCons (eOp2 ixD (eVar 10) (eVar 11)) (aCons (eOp2 ixD (eVar 10) (eOp2 (binD .Add) (eVar 11) (eC (.int 1)))) aNil))) (eC (.bl true)))) (tNot' (tTru (eCall (F_l_less C) 2 (aCons (eCall (F_l_gap C) 2 (aCons (eOp2 ixD (eVar 10) (eOp2 (binD .Add) (eVar 11) (eC (.int 1)))) (aCons (eVar 4) aNil))) (aCons (eCall (F_l_gap C) 2 (aCons (eOp2 ixD (eVar 10) (eVar 11)) (aCons (eVar 4) aNil))) aNil)))))) (sSeq (sRet (eC (.bl false))) sNil) sNil) sNil)) (sSeq (sAsg (eCall (F_parents C) 1 (aCons (eVar 4) aNil)) (.many [14, 15])) (sSeq (sIf (tVal (eOp2 (cmpD .NotEq) (eTup (aCons (eOp2 (binD .Add) (eOp2 ixD (eVar 14) (eC (.int 0))) (eOp2 ixD (eVar 15) (eC (.int 0)))) (aCons (eOp2 (binD .Add) (eOp2 ixD (eVar 14) (eC (.int 1))) (eOp2 ixD (eVar 15) (eC (.int 1)))) aNil))) (eVar 4))) (sSeq (sRet (eC (.bl false))) sNil) sNil) sNil))))))))))))))) (sSeq (sRet (eC (.bl true))) sNil))))
theorem sem_law (C : CA) : F_law C = fnB (B_law C) 16 := by kernel_rfl
end K27
set_option Elab.async false
set_option linter.all false
set_option maxRecDepth 100000
set_option maxHeartbeats 4000000
set_option exponentiation.threshold 10000
namespace K27
open PySem L2 DL
section
variable {C : CA} {S : SS} {P : D → SS → Prop}
/-- a value that isinstance can tell -/
def plain : D → Bool
  | .non | .bl _ | .int _ | .str _ | .tup _ => true
  | _ => false
def isI : D → Bool
  | .int _ => true
  | _ => false
theorem is_integer_sat {d : D} (hp : plain d = true) (k : P (.bl (isI d)) S) : Sat (F_is_integer C [d] S) P := by
  rw [sem_is_integer]
  refine sat_fn ?_
  unfold B_is_integer
  cases d <;> first | (simp [startD]; exact k) | (cases hp)

def isR (d : D) (lo hi : Int) : Bool := match d with
  | .int i => decide (lo ≤ i) && decide (i ≤ hi)
  | _ => false
theorem in_range_sat {d : D} {lo hi : Int} (hp : plain d = true) (k : P (.bl (isR d lo hi)) S) : Sat (F_in_range C [d, .int lo, .int hi] S) P := by
  rw [sem_in_range]
  refine sat_fn ?_
  unfold B_in_range
  simp [startD, e_call]
  refine is_integer_sat hp ?_
  cases d with
  | int i =>
    simp [isI]
    by_cases h : lo ≤ i
    · simp only [h, if_true, so_le]
      simpa [isR, h] using k
    · simp only [h, if_false]
      simpa [isR, h] using k
  | _ => first | (simp [isI]; exact k) | (cases hp)

theorem common_divisor_sat {a b : Int} (k : P (.int (Int.gcd a b : Nat)) S) : Sat (F_common_divisor C [.int a, .int b] S) P := by
  rw [sem_common_divisor]
  refine sat_fn ?_
  unfold B_common_divisor
  have ab : ∀ i : Int, (if i < 0 then -i else i) = (i.natAbs : Int) := fun i => by split <;> omega
  simp [startD, ab]
  refine gcd_loop (fun x y => [some (.int x), some (.int y)]) ?_ ?_ b.natAbs a.natAbs S ?_
  · intro x y S P h
    simpa using h
  · intro x y S Pn h0 h1 h
    simp
    exact ⟨by omega, by rw [fmod_pos h1]; exact h⟩
  · simp
    exact k

set_option exponentiation.threshold 10000 in
theorem least_sat {a b : Int} (h : b ≠ 0) (hb : b.natAbs < 2 ^ 8000) (k : P (fr a b) S) : Sat (F_least C [.int a, .int b] S) P := by
  rw [sem_least]
  refine sat_fn ?_
  unfold B_least
  simp [startD, e_call]
  refine common_divisor_sat ?_
  have g0 := gcd_pos (a := a) h
  have g1 := gcd_le (a := a) h
  have gl : (((Int.gcd a b : Nat) : Int)).natAbs < 2 ^ 8000 := by simpa using Nat.lt_of_le_of_lt g1 hb
  simp
  by_cases hb0 : b < 0
  · simp only [hb0, if_true]
    simp only [e_tup, a_cons, e_op2, e_var, e_op1, so_neg, so_fdiv, a_nil, List.getElem?_cons_succ, List.getElem?_cons_zero, List.set_cons_succ, List.set_cons_zero, List.length_cons, List.length_nil]
    have dv : DivOk (-((Int.gcd a b : Nat) : Int)) := divOk (a := 8000) (by omega) (by rw [Int.natAbs_neg]; exact gl) (by decide)
    exact ⟨dv, dv, le_size (by decide), by rw [nu_neg hb0, de_neg' hb0]; exact k⟩
  · simp only [hb0, if_false]
    simp only [e_tup, a_cons, e_op2, e_var, so_fdiv, a_nil, List.getElem?_cons_succ, List.getElem?_cons_zero, List.set_cons_succ, List.set_cons_zero, List.length_cons, List.length_nil]
    have dv : DivOk ((Int.gcd a b : Nat) : Int) := divOk (a := 8000) (by omega) gl (by decide)
    exact ⟨dv, dv, le_size (by decide), by rw [nu_pos hb0 h, de_pos hb0 h]; exact k⟩

set_option exponentiation.threshold 10000 in
theorem l_fraction_sat {a b : Int} (h : b ≠ 0) (ha : a.natAbs < 2 ^ 8000) (hb : b.natAbs < 2 ^ 8000) (k : P (fr a b) S) : Sat (F_l_fraction C [.int a, .int b] S) P := by
  rw [sem_l_fraction]
  refine sat_fn ?_
  unfold B_l_fraction
  have ab : ∀ i : Int, (if i < 0 then -i else i) = (i.natAbs : Int) := fun i => by split <;> omega
  simp [startD, ab]
  refine gcd_loop (fun x y => [some (.int a), some (.int b), none, some (.int x), some (.int y)]) ?_ ?_ b.natAbs a.natAbs S ?_
  · intro x y S P h
    simpa using h
  · intro x y S Pn h0 h1 h
    simp
    exact ⟨by omega, by rw [fmod_pos h1]; exact h⟩
  · have g0 := gcd_pos (a := a) h
    have g1 := gcd_le (a := a) h
    have gl : (((Int.gcd a b : Nat) : Int)).natAbs < 2 ^ 8000 := by simpa using Nat.lt_of_le_of_lt g1 hb
    have dv : DivOk ((Int.gcd a b : Nat) : Int) := divOk (a := 8000) (by omega) gl (by decide)
    have m1 : ∀ s : Int, s.natAbs < 2 ^ 2 → ∀ x : Int, x.natAbs < 2 ^ 8000 → MulOk s x := fun s hs x hx => mulOk hs hx (by decide)
    simp
    by_cases hb0 : b < 0
    · simp only [hb0, if_true]
      simp only [e_tup, a_cons, e_op1, e_op2, e_var, e_c, so_neg, so_mul, so_fdiv, a_nil, List.getElem?_cons_succ, List.getElem?_cons_zero, List.set_cons_succ, List.set_cons_zero, List.length_cons, List.length_nil]
      refine ⟨m1 _ (by decide) _ ha, dv, m1 _ (by decide) _ hb, dv, le_size (by decide), ?_⟩
      have e1 : (-1 * a).fdiv ((Int.gcd a b : Nat) : Int) = nu a b := by
        rw [fdiv_pos (show (0 : Int) < ((Int.gcd a b : Nat) : Int) by omega)]
        unfold nu
        rw [if_pos hb0]
        congr 1
        omega
      have e2 : (-1 * b).fdiv ((Int.gcd a b : Nat) : Int) = de a b := by
        rw [fdiv_pos (show (0 : Int) < ((Int.gcd a b : Nat) : Int) by omega)]
        unfold de
        congr 1
        omega
      have k' : P (.tup [.int ((-1 * a).fdiv ((Int.gcd a b : Nat) : Int)), .int ((-1 * b).fdiv ((Int.gcd a b : Nat) : Int))]) S := by rw [e1, e2]; exact k
      exact k'
    · simp only [hb0, if_false]
      simp only [e_tup, a_cons, e_op1, e_op2, e_var, e_c, so_neg, so_mul, so_fdiv, a_nil, List.getElem?_cons_succ, List.getElem?_cons_zero, List.set_cons_succ, List.set_cons_zero, List.length_cons, List.length_nil, Int.one_mul]
      refine ⟨m1 _ (by decide) _ ha, dv, m1 _ (by decide) _ hb, dv, le_size (by decide), ?_⟩
      have e1 := nu_pos (a := a) hb0 h
      have e2 := de_pos (a := a) hb0 h
      have k' : P (.tup [.int (a.fdiv ((Int.gcd a b : Nat) : Int)), .int (b.fdiv ((Int.gcd a b : Nat) : Int))]) S := by rw [e1, e2]; exact k
      exact k'

/-- an equation out of a rule -/
theorem times_sat {a1 b1 a2 b2 : Int} (h1 : b1 ≠ 0) (h2 : b2 ≠ 0) (ha1 : a1.natAbs < 2 ^ 3000) (hb1 : b1.natAbs < 2 ^ 3000) (ha2 : a2.natAbs < 2 ^ 3000) (hb2 : b2.natAbs < 2 ^ 3000) (k : P (fr (a1 * a2) (b1 * b2)) S) : Sat (F_times C [.tup [.int a1, .int b1], .tup [.int a2, .int b2]] S) P := by
  rw [sem_times]
  refine sat_fn ?_
  unfold B_times
  simp [startD, e_call]
  refine ⟨mulOk ha1 ha2 (by decide), mulOk hb1 hb2 (by decide), ?_⟩
  exact least_sat (Int.mul_ne_zero h1 h2) (Nat.lt_of_lt_of_le (mul_lt hb1 hb2) (Nat.pow_le_pow_right (by decide) (by decide))) k

theorem eq_of_sat {r : R D} {x : D} {S' : SS} (h : ∀ P : D → SS → Prop, P x S' → Sat r P) : r = .ok x S' := by
  obtain ⟨y, S2, e, h1, h2⟩ := sat_ex (h (fun y S2 => y = x ∧ S2 = S') ⟨rfl, rfl⟩)
  rw [e, h1, h2]

/-! the draws -/
theorem l_take_sat {kd ka n : Nat} {many : Int} (h : DA S kd ka n) (hn : n ≤ 1000000000000) (h0 : 0 < many) (k : ∀ (r : Int) (S' : SS), 0 ≤ r → r < many → Up ka S S' → S'.length = S.length → DA S' kd ka (n + 1) → P (.int r) S') : Sat (F_l_take C [.ref kd, .ref ka, .int many] S) P := by
  rw [sem_l_take]
  refine take_sat (m := F_l_more C) (fun S ds p P h1 h2 h3 h4 h5 => ?_) h hn h0 k
  rw [sem_l_more]
  exact more_sat h1 h2 h3 h4 h5
/-- one of a list that is made for it -/
theorem l_draws_sat {ns : List Int} (k : ∀ (ds : List Int) (l : List D), (∀ x ∈ ds, 0 ≤ x ∧ x < 2147483647) → ds.length ≤ 4000 → P (.ref 0) [.lst (ds.map .int), .lst l]) : Sat (F_l_draws C [.rls (ns.map .int)] []) P := by
  rw [sem_l_draws]
  exact draws_sat k

abbrev pr (p : Int × Int) : D := .tup [.int p.1, .int p.2]
/-- a pair whose numbers are small, its under above 0 -/
structure Sm (n : Nat) (a : Int × Int) : Prop where
  l : a.1.natAbs < 2 ^ n
  r : a.2.natAbs < 2 ^ n
  z : 0 < a.2
theorem Sm.up {n m : Nat} {a : Int × Int} (h : Sm n a) (hm : n ≤ m) : Sm m a := ⟨Nat.lt_of_lt_of_le h.l (Nat.pow_le_pow_right (by decide) hm), Nat.lt_of_lt_of_le h.r (Nat.pow_le_pow_right (by decide) hm), h.z⟩
def fp (a b : Int) : Int × Int := (nu a b, de a b)
theorem fp_sm {a b : Int} {n : Nat} (ha : a.natAbs < 2 ^ n) (hb : b.natAbs < 2 ^ n) (h : 0 < b) : Sm n (fp a b) := by
  have h0 : b ≠ 0 := by omega
  have := de_one (a := a) h0
  exact ⟨Nat.lt_of_le_of_lt (nu_le h0) ha, Nat.lt_of_le_of_lt (de_le h0) hb, by show 0 < de a b; omega⟩
def plusP (a b : Int × Int) : Int × Int := fp (a.1 * b.2 + b.1 * a.2) (a.2 * b.2)
def minusP (a b : Int × Int) : Int × Int := fp (a.1 * b.2 - b.1 * a.2) (a.2 * b.2)
theorem add_lt {x y : Int} {n : Nat} (hx : x.natAbs < 2 ^ n) (hy : y.natAbs < 2 ^ n) : (x + y).natAbs < 2 ^ (n + 1) := by
  rw [Nat.pow_succ]
  omega
theorem sub_lt {x y : Int} {n : Nat} (hx : x.natAbs < 2 ^ n) (hy : y.natAbs < 2 ^ n) : (x - y).natAbs < 2 ^ (n + 1) := by
  rw [Nat.pow_succ]
  omega
theorem two_lt {n m : Nat} {x : Int} (h : x.natAbs < 2 ^ n) (hm : n ≤ m) : x.natAbs < 2 ^ m := Nat.lt_of_lt_of_le h (Nat.pow_le_pow_right (by decide) hm)
theorem plus_sm {n m : Nat} {a b : Int × Int} (ha : Sm n a) (hb : Sm m b) : Sm (n + m + 1) (plusP a b) := by
  have e := mul_lt ha.l hb.r
  have f := mul_lt hb.l ha.r
  rw [Nat.add_comm m n] at f
  exact fp_sm (add_lt e f) (two_lt (mul_lt ha.r hb.r) (by omega)) (Int.mul_pos ha.z hb.z)
theorem minus_sm {n m : Nat} {a b : Int × Int} (ha : Sm n a) (hb : Sm m b) : Sm (n + m + 1) (minusP a b) := by
  have e := mul_lt ha.l hb.r
  have f := mul_lt hb.l ha.r
  rw [Nat.add_comm m n] at f
  exact fp_sm (sub_lt e f) (two_lt (mul_lt ha.r hb.r) (by omega)) (Int.mul_pos ha.z hb.z)

theorem minus_sat {a b : Int × Int} (ha : Sm 2000 a) (hb : Sm 2000 b) (k : P (pr (minusP a b)) S) : Sat (F_minus C [pr a, pr b] S) P := by
  rw [sem_minus]
  refine sat_fn ?_
  unfold B_minus
  simp [startD, e_call]
  refine ⟨mulOk ha.l hb.r (by decide), mulOk hb.l ha.r (by decide), mulOk ha.r hb.r (by decide), ?_⟩
  have := Int.mul_pos ha.z hb.z
  exact least_sat (by omega) (two_lt (mul_lt ha.r hb.r) (by decide)) k

theorem l_sum_sat {a b : Int × Int} (ha : Sm 2000 a) (hb : Sm 2000 b) (k : P (pr (plusP a b)) S) : Sat (F_l_sum C [pr a, pr b] S) P := by
  rw [sem_l_sum]
  refine sat_fn ?_
  unfold B_l_sum
  simp [startD, e_call]
  refine ⟨mulOk ha.l hb.r (by decide), mulOk hb.l ha.r (by decide), mulOk ha.r hb.r (by decide), ?_⟩
  have := Int.mul_pos ha.z hb.z
  have e := mul_lt ha.l hb.r
  have f := mul_lt hb.l ha.r
  exact l_fraction_sat (by omega) (two_lt (add_lt e f) (by decide)) (two_lt (mul_lt ha.r hb.r) (by decide)) k

def blw (a b : Int × Int) : Bool := decide (a.1 * b.2 < b.1 * a.2)

theorem is_below_sat {a b : Int × Int} (ha : Sm 2000 a) (hb : Sm 2000 b) (k : P (.bl (blw a b)) S) : Sat (F_is_below C [pr a, pr b] S) P := by
  rw [sem_is_below]
  refine sat_fn ?_
  unfold B_is_below
  simp [startD]
  exact ⟨mulOk ha.l hb.r (by decide), mulOk hb.l ha.r (by decide), k⟩
theorem l_less_sat {a b : Int × Int} (ha : Sm 2000 a) (hb : Sm 2000 b) (k : P (.bl (blw a b)) S) : Sat (F_l_less C [pr a, pr b] S) P := by
  rw [sem_l_less]
  refine sat_fn ?_
  unfold B_l_less
  simp [startD]
  exact ⟨mulOk ha.l hb.r (by decide), mulOk hb.l ha.r (by decide), k⟩
theorem l_minus_sat {a : Int × Int} (k : P (pr (-a.1, a.2)) S) : Sat (F_l_minus C [pr a] S) P := by
  rw [sem_l_minus]
  refine sat_fn ?_
  unfold B_l_minus
  simp [startD, e_tup]
  exact ⟨le_size (by decide), k⟩

theorem fp_fr {a b c d : Int} (hb : 0 < b) (hd : 0 < d) (h : a * d = c * b) : fp a b = fp c d := by
  have := fr_eq hb hd h
  unfold fr at this
  injection this with this
  injection this with h1 h2
  injection h2 with h2
  injection h1 with h1
  injection h2 with h2
  unfold fp
  rw [h1, h2]
theorem blw_fp {x y b : Int} (hb : 0 < b) : blw (fp x b) (fp y b) = decide (x < y) := by
  have c1 := cross (a := x) (b := b) (by omega)
  have c2 := cross (a := y) (b := b) (by omega)
  have p1 := de_one (a := x) (b := b) (by omega)
  have p2 := de_one (a := y) (b := b) (by omega)
  show decide (nu x b * de y b < nu y b * de x b) = decide (x < y)
  generalize nu x b = X at *
  generalize de x b = X' at *
  generalize nu y b = Y at *
  generalize de y b = Y' at *
  have hp : 0 < X' * Y' := Int.mul_pos (by omega) (by omega)
  have e1 : X * Y' * b = x * (X' * Y') := by grind
  have e2 : Y * X' * b = y * (X' * Y') := by grind
  rw [decide_eq_decide]
  constructor
  · intro h
    have := Int.mul_lt_mul_of_pos_right h hb
    rw [e1, e2] at this
    exact Int.lt_of_mul_lt_mul_right this (Int.le_of_lt hp)
  · intro h
    have := Int.mul_lt_mul_of_pos_right h hp
    rw [← e1, ← e2] at this
    exact Int.lt_of_mul_lt_mul_right this (Int.le_of_lt hb)

theorem fp_parts {A B : Int} (hB : 0 < B) : ∃ g : Int, 0 < g ∧ A = g * (fp A B).1 ∧ B = g * (fp A B).2 := by
  have g0 := gcd_pos (a := A) (b := B) (by omega)
  refine ⟨(Int.gcd A B : Nat), by omega, ?_, ?_⟩
  · show A = _ * nu A B
    unfold nu
    rw [if_neg (by omega), Int.mul_ediv_cancel' gcd_l]
  · show B = _ * de A B
    unfold de
    rw [Int.mul_ediv_cancel' (Int.dvd_natAbs.mpr gcd_r)]
    omega
theorem dvd_fp {A B : Int} (hB : 0 < B) : (fp A B).2 ∣ (fp A B).1 ↔ B ∣ A := by
  obtain ⟨g, hg, e1, e2⟩ := fp_parts (A := A) hB
  generalize (fp A B).1 = n at *
  generalize (fp A B).2 = d at *
  subst e1 e2
  exact (Int.mul_dvd_mul_iff_left (by omega)).symm
theorem de_is_one {A B : Int} (hB : 0 < B) : (fp A B).2 = 1 ↔ B ∣ A := by
  rw [← dvd_fp hB]
  have hco := co (a := A) (b := B) (by omega)
  have h1 := de_one (a := A) (b := B) (by omega)
  constructor
  · intro h
    rw [h]
    exact Int.one_dvd _
  · intro h
    have := Int.dvd_coe_gcd (show de A B ∣ nu A B from h) (Int.dvd_refl (de A B))
    rw [hco] at this
    exact Int.eq_one_of_dvd_one (show 0 ≤ de A B by omega) this
theorem fp_zero {g B : Int} (hB : 0 < B) : fp g B = (0, 1) ↔ g = 0 := by
  constructor
  · intro h
    obtain ⟨c, hc, e1, e2⟩ := fp_parts (A := g) hB
    rw [h] at e1
    simpa using e1
  · rintro rfl
    have := (de_is_one (A := 0) hB).mpr (Int.dvd_zero _)
    have e : (fp 0 B).1 = 0 := by
      show nu 0 B = 0
      unfold nu
      split <;> simp
    exact Prod.ext e this

abbrev arg (r : Str) : D := .tup [.str "argument", .str r]

/-- a list of those that pass -/
theorem lc_filt {it : PIt} {ct : CT} {vs : List Nat} {el : PEx} {t : PTs'} {δ : Sl} {items : List D} {g : D → D} {c : D → Bool} (hit : Sat (it δ S) fun x S1 => (∀ l, gOk x.2 (S ++ l)) ∧ S1 = S ∧ x.1 = items)
    (hel : ∀ d ∈ items, ∃ δ1, bindC ct d (wipeD δ vs) = some δ1 ∧ (∀ (S' : SS) (P : Bool → SS → Prop), (∀ l, P (c d) (S' ++ l)) → Sat (t δ1 S') P) ∧ ∀ (S' : SS) (P : D → SS → Prop), P (g d) S' → Sat (el δ1 S') P) (hl : items.length ≤ 100000) (k : ∀ l, P (.ref S.length) (S ++ .lst ((items.filter c).map g) :: l)) : Sat (eLc it ct vs t el δ S) P := by
  refine e_lc (hit.mono fun x S1 hx => ?_)
  obtain ⟨hgd, rfl, hi⟩ := hx
  subst hi
  refine ⟨fun j acc S' => acc = ((x.1.take j).filter c).map g ∧ ∃ l, S' = S1 ++ .lst acc :: l, fun i acc S' hI => ?_, ⟨rfl, [], rfl⟩, fun j d acc S' hj hI => ?_, fun acc S' hI => ?_⟩
  · obtain ⟨_, l, rfl⟩ := hI
    simp
  · obtain ⟨rfl, l, rfl⟩ := hI
    obtain ⟨δ1, hb, ht, he⟩ := hel d (List.mem_of_getElem? hj)
    have hjl := (List.getElem?_eq_some_iff.mp hj).1
    refine ⟨hgd _, δ1, hb, ?_⟩
    refine ht _ _ fun l2 => ?_
    have ef : (x.1.take (j + 1)).filter c = (x.1.take j).filter c ++ (if c d = true then [d] else []) := by
      rw [List.take_add_one, hj, List.filter_append]
      congr 1
      cases hcd : c d <;> simp [hcd]
    cases hcd : c d with
    | false =>
      simp only [Bool.false_eq_true, if_false]
      refine ⟨by rw [ef, hcd]; simp, l ++ l2, by simp⟩
    | true =>
      simp only [if_true]
      have hlen : (((x.1.take j).filter c).map g).length ≤ 100000 := by
        rw [List.length_map]
        exact Nat.le_trans (List.length_filter_le _ _) (by rw [List.length_take]; omega)
      refine he _ _ ⟨((x.1.take j).filter c).map g, by simp, by rw [sizeLine_eq]; omega, ?_, l ++ l2, by simp⟩
      rw [ef, hcd]
      simp
  · obtain ⟨rfl, l, rfl⟩ := hI
    refine ⟨hgd _, ?_⟩
    rw [List.take_length]
    exact k l
theorem ne_lst {i j : Nat} {xs ys : List D} {ps qs : List PyData} (h1 : S[i]? = some (.lst xs)) (h2 : S[j]? = some (.lst ys)) (p1 : pysI (lstOf S 3) xs = some ps) (p2 : pysI (lstOf S 3) ys = some qs) (s1 : SeqAt.shaped (.list ps) = true) (s2 : SeqAt.shaped (.list qs) = true) :
    SatO (cmpD .NotEq (.ref i) (.ref j) S) P = P (.bl (!PyData.eqvAll ps qs)) S := by
  have e1 : py S (.ref i) = some (.list ps) := by
    show lstOf S 4 i = _
    unfold lstOf
    simp only [h1, p1]
    rfl
  have e2 : py S (.ref j) = some (.list qs) := by
    show lstOf S 4 j = _
    unfold lstOf
    simp only [h2, p2]
    rfl
  rw [ne_any e1 e2 (fun x y h _ => by cases h) s1 s2]
  rfl
theorem pr_py {a : Int × Int} : py S (pr a) = some (.tuple [.int a.1, .int a.2]) := rfl
theorem ne_pr {a b : Int × Int} : SatO (cmpD .NotEq (pr a) (pr b) S) P = P (.bl (!decide (a = b))) S := by
  rw [ne_any (p := .tuple [.int a.1, .int a.2]) (q := .tuple [.int b.1, .int b.2]) rfl rfl (fun x y h _ => by cases h) rfl rfl]
  have : PyData.eqv (.tuple [.int a.1, .int a.2]) (.tuple [.int b.1, .int b.2]) = decide (a = b) := by
    simp only [PyData.eqv, PyData.eqvAll, Bool.and_true]
    rw [Bool.eq_iff_iff]
    simp only [Bool.and_eq_true, beq_iff_eq, decide_eq_true_eq]
    exact ⟨fun h => Prod.ext h.1 h.2, fun h => by rw [h]; exact ⟨rfl, rfl⟩⟩
  rw [this]
theorem eq_pr {a b : Int × Int} : SatO (cmpD .Eq (pr a) (pr b) S) P = P (.bl (decide (a = b))) S := by
  rw [eq_any (p := .tuple [.int a.1, .int a.2]) (q := .tuple [.int b.1, .int b.2]) rfl rfl (fun x y h _ => by cases h) rfl rfl]
  have : PyData.eqv (.tuple [.int a.1, .int a.2]) (.tuple [.int b.1, .int b.2]) = decide (a = b) := by
    simp only [PyData.eqv, PyData.eqvAll, Bool.and_true]
    rw [Bool.eq_iff_iff]
    simp only [Bool.and_eq_true, beq_iff_eq, decide_eq_true_eq]
    exact ⟨fun h => Prod.ext h.1 h.2, fun h => by rw [h]; exact ⟨rfl, rfl⟩⟩
  rw [this]
theorem ne_arg {r : Str} (h : SeqAt.shaped (.tuple [.str "argument", .str r]) = true) : SatO (cmpD .NotEq (arg r) (arg r) S) P = P (.bl false) S := by
  rw [ne_any (p := .tuple [.str "argument", .str r]) (q := .tuple [.str "argument", .str r]) rfl rfl (fun x y h _ => by cases h) h h]
  simp [PyData.eqv, PyData.eqvAll]
theorem eq_arg {r : Str} (h : SeqAt.shaped (.tuple [.str "argument", .str r]) = true) : SatO (cmpD .Eq (arg r) (arg r) S) P = P (.bl true) S := by
  rw [eq_any (p := .tuple [.str "argument", .str r]) (q := .tuple [.str "argument", .str r]) rfl rfl (fun x y h _ => by cases h) h h]
  simp [PyData.eqv, PyData.eqvAll]

end
end K27
set_option Elab.async false
set_option linter.all false
set_option maxHeartbeats 1000000
namespace K27
/-! neighbours: the mathematics -/
structure Nb (p q m a b c d : Int) : Prop where
  p1 : 1 ≤ p
  q1 : 1 ≤ q
  a0 : 0 ≤ a
  b0 : 0 ≤ b
  c0 : 0 ≤ c
  d0 : 0 ≤ d
  am : a ≤ m
  bm : b ≤ m
  cm : c ≤ m
  dm : d ≤ m
  det : c * b - a * d = 1
  lo : a * q < p * b
  hi : p * d < c * q
variable {p q m a b c d : Int}
theorem Nb.b1 (h : Nb p q m a b c d) : 1 ≤ b := by
  have := h.b0
  by_cases hb : b = 0
  · have h1 := h.lo
    have := Int.mul_nonneg h.a0 (show 0 ≤ q by have := h.q1; omega)
    rw [hb, Int.mul_zero] at h1
    omega
  · omega
theorem Nb.c1 (h : Nb p q m a b c d) : 1 ≤ c := by
  have := h.c0
  by_cases hc : c = 0
  · have h1 := h.hi
    have := Int.mul_nonneg (show 0 ≤ p by have := h.p1; omega) h.d0
    rw [hc, Int.zero_mul] at h1
    omega
  · omega
theorem Nb.swap (h : Nb p q m a b c d) : Nb q p m d c b a where
  p1 := h.q1
  q1 := h.p1
  a0 := h.d0
  b0 := h.c0
  c0 := h.b0
  d0 := h.a0
  am := h.dm
  bm := h.cm
  cm := h.bm
  dm := h.am
  det := by have := h.det; grind
  lo := by have := h.hi; grind
  hi := by have := h.lo; grind
/-- what lies between is greater -/
theorem between (h : Nb p q m a b c d) {x y : Int} (h1 : a * y < x * b) (h2 : x * d < c * y) : a + c ≤ x ∧ b + d ≤ y := by
  have det := h.det
  have ex : x = (x * b - a * y) * c + (c * y - x * d) * a := by
    have : (x * b - a * y) * c + (c * y - x * d) * a = x * (c * b - a * d) := by grind
    rw [this, det, Int.mul_one]
  have ey : y = (x * b - a * y) * d + (c * y - x * d) * b := by
    have : (x * b - a * y) * d + (c * y - x * d) * b = y * (c * b - a * d) := by grind
    rw [this, det, Int.mul_one]
  have u1 : 1 ≤ x * b - a * y := by omega
  have u2 : 1 ≤ c * y - x * d := by omega
  generalize x * b - a * y = u at *
  generalize c * y - x * d = v at *
  have k1 := Int.mul_le_mul_of_nonneg_right u1 h.c0
  have k2 := Int.mul_le_mul_of_nonneg_right u2 h.a0
  have k3 := Int.mul_le_mul_of_nonneg_right u1 h.d0
  have k4 := Int.mul_le_mul_of_nonneg_right u2 h.b0
  constructor <;> omega
/-- nothing in the bounds between them -/
structure NbF (p q m a b c d : Int) : Prop where
  n : Nb p q m a b c d
  f : m < a + c ∨ m < b + d
theorem NbF.swap (h : NbF p q m a b c d) : NbF q p m d c b a := ⟨h.n.swap, by have := h.f; omega⟩
theorem NbF.low_best (h : NbF p q m a b c d) {x y : Int} (y1 : 1 ≤ y) (xm : x ≤ m) (ym : y ≤ m) (hr : x * q ≤ p * y) : x * b ≤ a * y := by
  have hc : ¬ a * y < x * b := fun hlt => by
    have q1 := h.n.q1
    have k1 : x * d < c * y := by
      have s1 := Int.mul_le_mul_of_nonneg_right hr h.n.d0
      have s2 := Int.mul_lt_mul_of_pos_right h.n.hi (show 0 < y by omega)
      have s3 : (x * d) * q < (c * y) * q := by
        have e1 : x * d * q = x * q * d := by grind
        have e2 : c * y * q = c * q * y := by grind
        have e3 : p * y * d = p * d * y := by grind
        omega
      exact Int.lt_of_mul_lt_mul_right s3 (by omega)
    have := between h.n hlt k1
    have := h.f
    omega
  omega
theorem NbF.high_best (h : NbF p q m a b c d) {x y : Int} (x1 : 1 ≤ x) (xm : x ≤ m) (ym : y ≤ m) (hr : p * y ≤ x * q) : c * y ≤ x * d := by
  have := h.swap.low_best (x := y) (y := x) x1 ym xm (by grind)
  grind
/-- the same ratio in least terms -/
theorem cross_eq {a b a' b' c d c' d' : Int} (b1 : 1 ≤ b) (b1' : 1 ≤ b') (h : a * b' = a' * b) (h1 : c * b - a * d = 1) (h2 : c' * b' - a' * d' = 1) : a = a' ∧ b = b' := by
  have ea : a = a' * (c' * b - a * d') := by
    have : a' * (c' * b - a * d') = a * (c' * b' - a' * d') := by grind
    rw [this, h2, Int.mul_one]
  have eb : b = b' * (c' * b - a * d') := by
    have : b' * (c' * b - a * d') = b * (c' * b' - a' * d') := by grind
    rw [this, h2, Int.mul_one]
  generalize c' * b - a * d' = k at *
  have hk : k * (c * b' - a' * d) = 1 := by
    rw [← h1]
    conv => rhs; rw [ea, eb]
    grind
  have k1 : 0 < k := by
    have : 0 < b' * k := by omega
    exact Int.pos_of_mul_pos_right this (by omega)
  have : k ≤ 1 := by
    have hd : k ∣ 1 := ⟨_, hk.symm⟩
    exact Int.le_of_dvd (by decide) hd
  have : k = 1 := by omega
  subst this
  exact ⟨by omega, by omega⟩
theorem NbF.uniq {a' b' c' d' : Int} (h : NbF p q m a b c d) (h' : NbF p q m a' b' c' d') : (a = a' ∧ b = b') ∧ (c = c' ∧ d = d') := by
  have lw : ∀ {p q m a b c d a' b' c' d' : Int}, NbF p q m a b c d → NbF p q m a' b' c' d' → a = a' ∧ b = b' := fun {p q m a b c d a' b' c' d'} h h' => by
    have i1 := h.low_best h'.n.b1 h'.n.am h'.n.bm (by have := h'.n.lo; omega)
    have i2 := h'.low_best h.n.b1 h.n.am h.n.bm (by have := h.n.lo; omega)
    exact cross_eq h.n.b1 h'.n.b1 (by omega) h.n.det h'.n.det
  have := lw h.swap h'.swap
  exact ⟨lw h h', this.2, this.1⟩
/-- in least terms, by the greatest common divisor -/
theorem dvd_co {x y p : Int} (g : Int.gcd x y = 1) (h : x ∣ p * y) : x ∣ p := by
  have h1 : x.natAbs ∣ p.natAbs * y.natAbs := by
    rw [← Int.natAbs_mul]
    exact Int.natAbs_dvd_natAbs.mpr h
  have h2 : Nat.Coprime x.natAbs y.natAbs := g
  exact Int.natAbs_dvd_natAbs.mp (h2.dvd_of_dvd_mul_right h1)
theorem cross_co {x y p q : Int} (x1 : 1 ≤ x) (y1 : 1 ≤ y) (p1 : 1 ≤ p) (q1 : 1 ≤ q) (g : Int.gcd x y = 1) (g' : Int.gcd p q = 1) (h : x * q = p * y) : x = p ∧ y = q := by
  have d1 : x ∣ p := dvd_co g ⟨q, h.symm⟩
  have d2 : p ∣ x := dvd_co g' ⟨y, h⟩
  have e1 := Int.le_of_dvd (by omega) d1
  have e2 := Int.le_of_dvd (by omega) d2
  have e : x = p := by omega
  subst e
  refine ⟨rfl, ?_⟩
  have := Int.eq_of_mul_eq_mul_left (show x ≠ 0 by omega) h
  exact this.symm
theorem det_gcd (h : c * b - a * d = 1) : Int.gcd a b = 1 := by
  have h1 : ((Int.gcd a b : Nat) : Int) ∣ 1 := by
    rw [← h]
    exact Int.dvd_sub (Int.dvd_mul_of_dvd_right (Int.gcd_dvd_right ..) ) (Int.dvd_mul_of_dvd_left (Int.gcd_dvd_left ..))
  have h2 : Int.gcd a b ∣ 1 := Int.ofNat_dvd.mp h1
  exact Nat.dvd_one.mp h2
/-! steps -/
theorem Nb.up (h : Nb p q m a b c d) {k : Int} (k0 : 0 ≤ k) (ha : a + k * c ≤ m) (hb : b + k * d ≤ m) (hl : (a + k * c) * q < p * (b + k * d)) : Nb p q m (a + k * c) (b + k * d) c d where
  p1 := h.p1
  q1 := h.q1
  a0 := by have := h.a0; have := Int.mul_nonneg k0 h.c0; omega
  b0 := by have := h.b0; have := Int.mul_nonneg k0 h.d0; omega
  c0 := h.c0
  d0 := h.d0
  am := ha
  bm := hb
  cm := h.cm
  dm := h.dm
  det := by have := h.det; grind
  lo := hl
  hi := h.hi
theorem Nb.down (h : Nb p q m a b c d) {k : Int} (k0 : 0 ≤ k) (hc : c + k * a ≤ m) (hd : d + k * b ≤ m) (hl : p * (d + k * b) < (c + k * a) * q) : Nb p q m a b (c + k * a) (d + k * b) := by
  have := h.swap.up (k := k) k0 hd hc (by grind)
  exact this.swap
end K27
set_option Elab.async false
set_option linter.all false
set_option maxRecDepth 100000
set_option maxHeartbeats 2000000
/-! terms and their fractions -/
namespace K27
open PySem L2 DL
def tms (o u : Nat) : List Nat := if h : u = 0 then [] else (o / u) :: tms u (o % u)
termination_by u
decreasing_by exact Nat.mod_lt _ (Nat.pos_of_ne_zero h)
theorem tms_zero (o : Nat) : tms o 0 = [] := by
  rw [tms]
  simp
theorem tms_pos {o u : Nat} (h : 0 < u) : tms o u = (o / u) :: tms u (o % u) := by
  rw [tms, dif_neg (by omega)]
theorem tms_len : ∀ (k o u : Nat), u < 2 ^ k → (tms o u).length ≤ 2 * k
  | 0, o, u, h => by
    have : u = 0 := by simpa using h
    subst this
    rw [tms_zero]
    exact Nat.le_refl _
  | k + 1, o, u, h => by
    by_cases hu : 0 < u
    · rw [tms_pos hu]
      have hr := Nat.mod_lt o hu
      generalize o % u = r at *
      by_cases h0 : 0 < r
      · rw [tms_pos h0]
        have hq : 1 ≤ u / r := (Nat.le_div_iff_mul_le h0).mpr (by omega)
        have hd := Nat.div_add_mod u r
        have hm := Nat.mod_lt u h0
        have hx : r * 1 ≤ r * (u / r) := Nat.mul_le_mul_left r hq
        have := tms_len k r (u % r) (by rw [Nat.pow_succ] at h; omega)
        simp only [List.length_cons]
        omega
      · have : r = 0 := by omega
        subst this
        rw [tms_zero]
        simp only [List.length_cons, List.length_nil]
        omega
    · have : u = 0 := by omega
      subst this
      rw [tms_zero]
      exact Nat.zero_le _
theorem tms_ge : ∀ (u o : Nat), u ≤ o → ∀ x ∈ tms o u, 1 ≤ x := by
  intro u
  induction u using Nat.strongRecOn with
  | ind u ih =>
    intro o h x hx
    by_cases hu : 0 < u
    · rw [tms_pos hu] at hx
      rcases List.mem_cons.mp hx with rfl | hx
      · exact (Nat.le_div_iff_mul_le hu).mpr (by omega)
      · have hr := Nat.mod_lt o hu
        exact ih (o % u) hr u (by omega) x hx
    · have : u = 0 := by omega
      subst this
      rw [tms_zero] at hx
      simp at hx
theorem tms_le : ∀ (u o m : Nat), u ≤ m → o ≤ m → ∀ x ∈ tms o u, x ≤ m := by
  intro u
  induction u using Nat.strongRecOn with
  | ind u ih =>
    intro o m h1 h2 x hx
    by_cases hu : 0 < u
    · rw [tms_pos hu] at hx
      rcases List.mem_cons.mp hx with rfl | hx
      · exact Nat.le_trans (Nat.div_le_self _ _) h2
      · have hr := Nat.mod_lt o hu
        exact ih (o % u) hr u m (by omega) h1 x hx
    · have : u = 0 := by omega
      subst this
      rw [tms_zero] at hx
      simp at hx
/-- the terms, as integers -/
def tI (o u : Nat) : List Int := (tms o u).map (fun n : Nat => (n : Int))
def mp : List Int → (Int × Int) × (Int × Int)
  | [] => ((1, 0), (0, 1))
  | a :: l => ((a * (mp l).1.1 + (mp l).1.2, (mp l).1.1), (a * (mp l).2.1 + (mp l).2.2, (mp l).2.1))
theorem mp_cons {a : Int} {l : List Int} : mp (a :: l) = ((a * (mp l).1.1 + (mp l).1.2, (mp l).1.1), (a * (mp l).2.1 + (mp l).2.2, (mp l).2.1)) := rfl
theorem mp_snoc {a : Int} : ∀ {l : List Int}, mp (l ++ [a]) = ((a * (mp l).1.1 + (mp l).2.1, a * (mp l).1.2 + (mp l).2.2), (mp l).1)
  | [] => by
    simp [mp]
  | b :: l => by
    rw [List.cons_append, mp_cons, mp_snoc (l := l), mp_cons]
    generalize (mp l).1.1 = p
    generalize (mp l).1.2 = q
    generalize (mp l).2.1 = r
    generalize (mp l).2.2 = s
    simp only [Prod.mk.injEq]
    grind
theorem mp_det : ∀ (l : List Int), (mp l).1.1 * (mp l).2.2 - (mp l).2.1 * (mp l).1.2 = 1 ∨ (mp l).1.1 * (mp l).2.2 - (mp l).2.1 * (mp l).1.2 = -1
  | [] => .inl (by simp [mp])
  | a :: l => by
    have ih := mp_det l
    rw [mp_cons]
    generalize (mp l).1.1 = p at *
    generalize (mp l).1.2 = q at *
    generalize (mp l).2.1 = r at *
    generalize (mp l).2.2 = s at *
    show (a * p + q) * r - (a * r + s) * p = 1 ∨ (a * p + q) * r - (a * r + s) * p = -1
    have e : (a * p + q) * r - (a * r + s) * p = -(p * s - r * q) := by grind
    rw [e]
    omega
theorem mp_gcd (l : List Int) : Int.gcd (mp l).1.1 (mp l).1.2 = 1 := by
  have h := mp_det l
  generalize (mp l).1.1 = p at *
  generalize (mp l).1.2 = q at *
  generalize (mp l).2.1 = r at *
  generalize (mp l).2.2 = s at *
  have h1 : ((Int.gcd p q : Nat) : Int) ∣ p := Int.gcd_dvd_left p q
  have h2 : ((Int.gcd p q : Nat) : Int) ∣ q := Int.gcd_dvd_right p q
  have h3 : ((Int.gcd p q : Nat) : Int) ∣ p * s - r * q := Int.dvd_sub (Int.dvd_mul_of_dvd_left h1) (Int.dvd_mul_of_dvd_right h2)
  have h4 : ((Int.gcd p q : Nat) : Int) ∣ 1 := by
    rcases h with h | h
    · rw [h] at h3; exact h3
    · rw [h] at h3; exact (Int.dvd_neg).mp h3
  have := Int.eq_one_of_dvd_one (by omega) h4
  omega
theorem mp_val : ∀ (u o : Nat), ∃ g : Nat, (o : Int) = g * (mp (tI o u)).1.1 ∧ (u : Int) = g * (mp (tI o u)).1.2 := by
  intro u
  induction u using Nat.strongRecOn with
  | ind u ih =>
    intro o
    by_cases hu : 0 < u
    · have hr := Nat.mod_lt o hu
      obtain ⟨g, h1, h2⟩ := ih (o % u) hr u
      refine ⟨g, ?_, ?_⟩
      · have e : tI o u = ((o / u : Nat) : Int) :: tI u (o % u) := by unfold tI; rw [tms_pos hu]; rfl
        rw [e, mp_cons]
        show (o : Int) = g * (((o / u : Nat) : Int) * (mp (tI u (o % u))).1.1 + (mp (tI u (o % u))).1.2)
        have hd : (o : Int) = (u : Int) * ((o / u : Nat) : Int) + ((o % u : Nat) : Int) := by
          have := Nat.div_add_mod o u
          exact_mod_cast this.symm
        rw [Int.mul_add, ← h2]
        have : (g : Int) * (((o / u : Nat) : Int) * (mp (tI u (o % u))).1.1) = ((o / u : Nat) : Int) * (g * (mp (tI u (o % u))).1.1) := by grind
        rw [this, ← h1, Int.mul_comm ((o / u : Nat) : Int)]
        exact hd
      · have e : tI o u = ((o / u : Nat) : Int) :: tI u (o % u) := by unfold tI; rw [tms_pos hu]; rfl
        rw [e, mp_cons]
        exact h1
    · have : u = 0 := by omega
      subst this
      refine ⟨o, ?_, ?_⟩
      · unfold tI
        rw [tms_zero]
        show (o : Int) = o * 1
        omega
      · unfold tI
        rw [tms_zero]
        show ((0 : Nat) : Int) = o * 0
        simp
theorem mp_ratio {o u : Nat} (h : Nat.gcd o u = 1) : (mp (tI o u)).1 = ((o : Int), (u : Int)) := by
  obtain ⟨g, h1, h2⟩ := mp_val u o
  have d1 : g ∣ o := by
    have : (g : Int) ∣ (o : Int) := ⟨_, h1⟩
    exact Int.natCast_dvd_natCast.mp this
  have d2 : g ∣ u := by
    have : (g : Int) ∣ (u : Int) := ⟨_, h2⟩
    exact Int.natCast_dvd_natCast.mp this
  have d3 : g ∣ 1 := h ▸ Nat.dvd_gcd d1 d2
  have g1 : g = 1 := Nat.dvd_one.mp d3
  subst g1
  exact Prod.ext (by simpa using h1.symm) (by simpa using h2.symm)
/-- nonnegative -/
theorem mp_nn : ∀ {l : List Int}, (∀ x ∈ l, 0 ≤ x) → 0 ≤ (mp l).1.1 ∧ 0 ≤ (mp l).1.2 ∧ 0 ≤ (mp l).2.1 ∧ 0 ≤ (mp l).2.2
  | [], _ => ⟨by decide, by decide, by decide, by decide⟩
  | a :: l, h => by
    obtain ⟨h1, h2, h3, h4⟩ := mp_nn (l := l) fun x hx => h x (by simp [hx])
    have ha := h a (by simp)
    rw [mp_cons]
    exact ⟨Int.add_nonneg (Int.mul_nonneg ha h1) h2, h1, Int.add_nonneg (Int.mul_nonneg ha h3) h4, h3⟩
theorem mp_pos : ∀ {l : List Int}, (∀ x ∈ l, 1 ≤ x) → 1 ≤ (mp l).1.1
  | [], _ => by decide
  | a :: l, h => by
    have ih := mp_pos (l := l) fun x hx => h x (by simp [hx])
    have ha := h a (by simp)
    have nn := mp_nn (l := l) fun x hx => by have := h x (by simp [hx]); omega
    rw [mp_cons]
    have := Int.mul_le_mul ha ih (by decide) (by omega)
    show 1 ≤ a * (mp l).1.1 + (mp l).1.2
    omega
theorem mp_mono : ∀ {l2 l : List Int}, (∀ x ∈ l, 0 ≤ x) → (∀ x ∈ l2, 1 ≤ x) → (mp l).1.1 ≤ (mp (l ++ l2)).1.1 ∧ (mp l).1.2 ≤ (mp (l ++ l2)).1.2
  | [], l, _, _ => by simp
  | a :: l2, l, h1, h2 => by
    have ha := h2 a (by simp)
    have nn := mp_nn h1
    have e : l ++ a :: l2 = (l ++ [a]) ++ l2 := by simp
    obtain ⟨i1, i2⟩ := mp_mono (l2 := l2) (l := l ++ [a]) (fun x hx => by
      rcases List.mem_append.mp hx with hx | hx
      · exact h1 x hx
      · rw [List.mem_singleton.mp hx]; omega) fun x hx => h2 x (by simp [hx])
    rw [e]
    have hs := mp_snoc (l := l) (a := a)
    rw [hs] at i1 i2
    have x1 : (mp l).1.1 ≤ a * (mp l).1.1 := by
      have := Int.mul_le_mul_of_nonneg_right ha nn.1
      omega
    have x2 : (mp l).1.2 ≤ a * (mp l).1.2 := by
      have := Int.mul_le_mul_of_nonneg_right ha nn.2.1
      omega
    have i1 : a * (mp l).1.1 + (mp l).2.1 ≤ (mp (l ++ [a] ++ l2)).1.1 := i1
    have i2 : a * (mp l).1.2 + (mp l).2.2 ≤ (mp (l ++ [a] ++ l2)).1.2 := i2
    omega
/-- crude bounds -/
theorem mp_lt : ∀ {l : List Int}, (∀ x ∈ l, x.natAbs < 2 ^ 31) → (mp l).1.1.natAbs < 2 ^ (32 * l.length + 1) ∧ (mp l).1.2.natAbs < 2 ^ (32 * l.length + 1)
  | [], _ => ⟨by decide, by decide⟩
  | a :: l, h => by
    obtain ⟨h1, h2⟩ := mp_lt (l := l) fun x hx => h x (by simp [hx])
    have ha := h a (by simp)
    rw [mp_cons]
    have e : 2 ^ (32 * (a :: l).length + 1) = 2 ^ (31 + (32 * l.length + 1)) * 2 := by
      rw [← Nat.pow_succ]
      congr 1
      rw [List.length_cons]
      omega
    have m := mul_lt ha h1
    have q : 2 ^ (32 * l.length + 1) ≤ 2 ^ (31 + (32 * l.length + 1)) := Nat.pow_le_pow_right (by decide) (by omega)
    rw [e]
    refine ⟨?_, ?_⟩
    · show (a * (mp l).1.1 + (mp l).1.2).natAbs < _
      omega
    · show (mp l).1.1.natAbs < _
      omega
/-- what a row of terms is -/
structure Row (l : List Int) : Prop where
  hd : ∀ a, l.head? = some a → 0 ≤ a
  tl : ∀ x ∈ l.tail, 1 ≤ x
  b : ∀ x ∈ l, x.natAbs < 2 ^ 31
  ne : l ≠ []
  len : l.length ≤ 64
theorem Row.nn {l : List Int} (h : Row l) : ∀ x ∈ l, 0 ≤ x := by
  cases l with
  | nil => exact absurd rfl h.ne
  | cons a l =>
    intro x hx
    rcases List.mem_cons.mp hx with rfl | hx
    · exact h.hd _ rfl
    · have := h.tl x hx
      omega
theorem Row.take {l : List Int} (h : Row l) (k : Nat) : Row (l.take (k + 1)) := by
  cases l with
  | nil => exact absurd rfl h.ne
  | cons a l =>
    refine ⟨fun x hx => h.hd x (by simpa using hx), fun x hx => ?_, fun x hx => h.b x (List.mem_of_mem_take hx), by simp, ?_⟩
    · rw [List.take_succ_cons, List.tail_cons] at hx
      exact h.tl x (List.mem_of_mem_take hx)
    · have := h.len
      rw [List.length_take]
      omega
theorem Row.under {l : List Int} (h : Row l) : 1 ≤ (mp l).1.2 := by
  cases l with
  | nil => exact absurd rfl h.ne
  | cons a l =>
    rw [mp_cons]
    exact mp_pos h.tl
/-- the row [0] alone has over 0 -/
theorem Row.over {l : List Int} (h : Row l) : 0 < (mp l).1.1 ↔ l ≠ [0] := by
  cases l with
  | nil => exact absurd rfl h.ne
  | cons a l =>
    have ha := h.hd a rfl
    have p := mp_pos h.tl
    rw [mp_cons]
    show 0 < a * (mp l).1.1 + (mp l).1.2 ↔ _
    cases l with
    | nil =>
      show 0 < a * 1 + 0 ↔ _
      simp
      omega
    | cons b l =>
      have q : 1 ≤ (mp (b :: l)).1.2 := by
        rw [mp_cons]
        exact mp_pos fun x hx => h.tl x (by simp [hx])
      have : 0 ≤ a * (mp (b :: l)).1.1 := Int.mul_nonneg ha (by have := mp_pos h.tl; simp only [List.tail_cons] at this; omega)
      simp
      omega
theorem row_tI {o u : Nat} (hu : 0 < u) (h1 : o ≤ 1000000000) (h2 : u ≤ 1000000000) : Row (tI o u) := by
  unfold tI
  rw [tms_pos hu]
  have hr := Nat.mod_lt o hu
  refine ⟨fun a ha => ?_, fun x hx => ?_, fun x hx => ?_, by simp, ?_⟩
  · rw [List.map_cons, List.head?_cons] at ha
    injection ha with ha
    rw [← ha]
    exact Int.natCast_nonneg _
  · rw [List.map_cons, List.tail_cons] at hx
    obtain ⟨n, hn, rfl⟩ := List.mem_map.mp hx
    have := tms_ge (o % u) u (by omega) n hn
    omega
  · rw [← tms_pos hu] at hx
    obtain ⟨n, hn, rfl⟩ := List.mem_map.mp hx
    have := tms_le u o 1000000000 h2 h1 n hn
    omega
  · rw [← tms_pos hu, List.length_map]
    have := tms_len 30 o u (by omega)
    omega
end K27
set_option Elab.async false
set_option linter.all false
set_option maxRecDepth 100000
set_option maxHeartbeats 2000000
namespace K27
open PySem L2 DL
section
variable {C : CA} {S : SS} {P : D → SS → Prop} {X : XQ}
theorem aP_plain {d : D} (h : aP d = true) : plain d = true := by cases d <;> first | rfl | (exact h)
theorem nTup (d : D) : (∃ ds, d = .tup ds) ∨ ∀ ds, d ≠ .tup ds := by
  cases d with
  | tup ds => exact .inl ⟨ds, rfl⟩
  | _ => exact .inr fun _ h => by cases h
theorem isi_ntup {d : D} {Pd : D → SS → Prop} (hp : aP d = true) (h : ∀ ds, d ≠ .tup ds) : SatO (isiD [d, .ty "tuple"] S) Pd = Pd (.bl false) S := by
  cases d with
  | tup ds => exact absurd rfl (h ds)
  | _ => first | (cases hp; done) | simp
theorem isR_int {d : D} {lo hi : Int} (h : isR d lo hi = true) : ∃ i, d = .int i ∧ lo ≤ i ∧ i ≤ hi := by
  cases d with
  | int i =>
    simp [isR] at h
    exact ⟨i, rfl, h⟩
  | _ => cases h
theorem isR_of {i lo hi : Int} (h1 : lo ≤ i) (h2 : i ≤ hi) : isR (.int i) lo hi = true := by simp [isR, h1, h2]
abbrev AE (C : CA) (X : XQ) (r : Str) (S : SS) : Prop := X C.ArgumentError [("reason", .str r)] S
def q2 (lo hi : Int) : D → Bool
  | .tup [a, b] => isR a lo hi && isR b lo hi
  | _ => false
theorem q_test {d : D} {δ : Sl} {i j : Nat} {lo hi : Int} {P : Bool → SS → Prop} (hp : aP d = true) (hd : δ[i]? = some (some d)) (hj : j < δ.length) (k : ∀ l, P (!q2 lo hi d) (S ++ l)) : XSat (tOr' (tNot' (tTru (eCB isiD (aCons (eVar i) (aCons (eC (.ty "tuple")) aNil))))) (tOr' (tVal (eOp2 (cmpD .NotEq) (eCB (one lenD) (aCons (eVar i) aNil)) (eC (.int 2)))) (tNot' (tTru (eCB (one allD) (aCons (eLc (iVal (eVar i)) (.one j) [j] tYes' (eCall (F_in_range C) 3 (aCons (eVar j) (aCons (eC (.int lo)) (aCons (eC (.int hi)) aNil))))) aNil))))) δ S) P X := by
  have k0 : q2 lo hi d = false → P true S := fun h => by
    have := k []
    rw [h, List.append_nil] at this
    exact this
  simp only [xt_or, xt_not, xt_tru, xt_val, xe_cb, xe_op2, xa_cons, xa_nil, xe_var, xe_c, hd]
  rcases nTup d with ⟨ds, rfl⟩ | hn
  · obtain ⟨hl, ha⟩ := aP_tup hp
    simp only [isi_tup_tup, tru_bl, Bool.not_true, Bool.false_eq_true, if_false, so_lenT, ne_int, boolOf_bl]
    by_cases h2 : ds.length = 2
    · match ds, h2 with
      | [x, y], _ =>
        simp only [List.length_cons, List.length_nil, Nat.zero_add, Nat.reduceAdd]
        have e2 : (!(((2 : Nat) : Int) == 2)) = false := rfl
        rw [e2]
        simp only [Bool.false_eq_true, if_false]
        refine Sat.x (lc_map (items := [x, y]) (g := fun d => .bl (isR d lo hi)) ?_ ?_ (show 2 ≤ 100000 by decide) fun l => ?_)
        · simp [it_val, iterD, gOk, hd]
        · intro d hd
          refine ⟨_, rfl, fun S' P kk => ?_⟩
          have hg : ((wipeD δ [j]).set j (some d))[j]? = some (some d) := by
            rw [List.getElem?_set_self]
            simp [wipeD, hj]
          refine XSat.s ?_
          simp only [xe_call, xa_cons, xa_nil, xe_var, hg, xe_c, List.length_cons, List.length_nil, Nat.zero_add, Nat.reduceAdd, true_and]
          refine (in_range_sat (aP_plain (ha d hd)) ?_).x
          have := kk []
          rwa [List.append_nil] at this
        · have hg : (S ++ MO.lst ([x, y].map fun d => D.bl (isR d lo hi)) :: l)[S.length]? = some (.lst ([x, y].map fun d => D.bl (isR d lo hi))) := by simp
          rw [all_map hg]
          simp only [tru_bl]
          have := k (MO.lst ([x, y].map fun d => D.bl (isR d lo hi)) :: l)
          simpa [q2] using this
    · have e2 : (!((ds.length : Int) == 2)) = true := by
        simp
        omega
      rw [e2]
      simp only [if_true]
      refine k0 ?_
      match ds, h2 with
      | [], _ => rfl
      | [_], _ => rfl
      | _ :: _ :: _ :: _, _ => rfl
      | [x, y], h => exact absurd rfl h
  · rw [isi_ntup hp hn]
    simp only [tru_bl, Bool.not_false, if_true]
    refine k0 ?_
    unfold q2
    split
    · exact absurd rfl (hn _)
    · rfl
def rtB : D → Bool
  | .tup [.int a, .int b] => (isR (.int a) 1 1000000000 && isR (.int b) 1 1000000000) && (Int.gcd a b == 1)
  | _ => false
/-- a ratio -/
structure Rt (p : Int × Int) : Prop where
  a1 : 1 ≤ p.1
  a2 : p.1 ≤ 1000000000
  b1 : 1 ≤ p.2
  b2 : p.2 ≤ 1000000000
  co : Int.gcd p.1 p.2 = 1
theorem Rt.sm {p : Int × Int} (h : Rt p) : Sm 31 p := by
  have := h.a1; have := h.a2; have := h.b1; have := h.b2
  exact ⟨by omega, by omega, by omega⟩
theorem rtB_pr {p : Int × Int} : rtB (pr p) = true ↔ Rt p := by
  simp only [rtB, isR, Bool.and_eq_true, decide_eq_true_eq, beq_iff_eq]
  exact ⟨fun h => ⟨h.1.1.1, h.1.1.2, h.1.2.1, h.1.2.2, h.2⟩, fun h => ⟨⟨⟨h.a1, h.a2⟩, h.b1, h.b2⟩, h.co⟩⟩
theorem rt_of {d : D} (h : rtB d = true) : ∃ p, d = pr p ∧ Rt p := by
  unfold rtB at h
  split at h
  · rename_i a b
    exact ⟨(a, b), rfl, rtB_pr.mp h⟩
  · cases h
theorem demand_ratio_x {d : D} (hp : aP d = true) (x : rtB d = false → ∀ l, AE C X "ratio" (S ++ l)) (k : rtB d = true → ∀ l, P .non (S ++ l)) : XSat (F_demand_ratio C [d] S) P X := by
  rw [sem_demand_ratio]
  refine x_fn ?_
  unfold B_demand_ratio
  simp only [startD, List.getElem?_cons_succ, List.getElem?_cons_zero, List.set_cons_succ, List.set_cons_zero, List.length_cons, List.length_nil, List.map_cons, List.map_nil, List.cons_append, List.nil_append, List.replicate, Nat.reduceAdd, Nat.zero_add, true_and]
  rw [x_seq, x_if]
  refine q_test hp rfl (by decide : 1 < 2) fun l => ?_
  by_cases h2 : q2 1 1000000000 d = true
  · rw [h2]
    unfold q2 at h2
    split at h2
    · rw [Bool.and_eq_true] at h2
      obtain ⟨a, rfl, ha⟩ := isR_int h2.1
      obtain ⟨b, rfl, hb⟩ := isR_int h2.2
      have er : rtB (.tup [.int a, .int b]) = (Int.gcd a b == 1) := by
        simp only [rtB, h2.1, h2.2, Bool.and_self, Bool.true_and]
      rw [er] at x k
      simp only [Bool.not_true, Bool.false_eq_true, if_false]
      try simp only [x_seq, x_nil, x_drop, x_ret, x_retN, x_if, x_asg1, x_par, x_raise, xe_var, xe_c, xe_op1, xe_op2, xe_if, xa_nil, xa_cons, xe_call, xe_cb, xe_and, xe_or, xe_chain, xt_tru, xt_val, xt_not, xt_and, xt_or, xt_if, xt_yes, xit_val, xit_on, startD, xe_tup0, xe_tup1, xe_tup2, xe_tup3, xe_tup4, xe_tup5, xe_tup6, xe_lst0, xe_lst1, xe_lst2, xe_lst3, xe_lst4, xe_lst5, xe_lst6, xe_lst7, xe_lst8, xe_lst9, xe_lst10, xe_lst11, xe_lst12, xe_lst13, xe_lst14, xe_lst15, xe_lst16, so_add, so_sub, so_mul, so_fdiv, so_mod, so_lt, so_le, so_gt, so_ge, so_neg, so_notb, so_int, so_lenT, eq_int, ne_int, tru_int, tru_bl, tru_tup, tru_non, boolOf_bl, so_ix0, so_ix1, so_ix2, eq_str, ne_str, List.getElem?_cons_succ, List.getElem?_cons_zero, List.set_cons_succ, List.set_cons_zero, List.length_cons, List.length_nil, List.map_cons, List.map_nil, List.cons_append, List.nil_append, List.replicate, Nat.reduceAdd, Nat.zero_add, true_and]
      refine (common_divisor_sat ?_).x
      try simp only [x_seq, x_nil, x_drop, x_ret, x_retN, x_if, x_asg1, x_par, x_raise, xe_var, xe_c, xe_op1, xe_op2, xe_if, xa_nil, xa_cons, xe_call, xe_cb, xe_and, xe_or, xe_chain, xt_tru, xt_val, xt_not, xt_and, xt_or, xt_if, xt_yes, xit_val, xit_on, startD, xe_tup0, xe_tup1, xe_tup2, xe_tup3, xe_tup4, xe_tup5, xe_tup6, xe_lst0, xe_lst1, xe_lst2, xe_lst3, xe_lst4, xe_lst5, xe_lst6, xe_lst7, xe_lst8, xe_lst9, xe_lst10, xe_lst11, xe_lst12, xe_lst13, xe_lst14, xe_lst15, xe_lst16, so_add, so_sub, so_mul, so_fdiv, so_mod, so_lt, so_le, so_gt, so_ge, so_neg, so_notb, so_int, so_lenT, eq_int, ne_int, tru_int, tru_bl, tru_tup, tru_non, boolOf_bl, so_ix0, so_ix1, so_ix2, eq_str, ne_str, List.getElem?_cons_succ, List.getElem?_cons_zero, List.set_cons_succ, List.set_cons_zero, List.length_cons, List.length_nil, List.map_cons, List.map_nil, List.cons_append, List.nil_append, List.replicate, Nat.reduceAdd, Nat.zero_add, true_and]
      have e : (!(((Int.gcd a b : Nat) : Int) == 1)) = !(Int.gcd a b == 1) := by
        congr 1
        rw [Bool.eq_iff_iff]
        simp
        omega
      rw [e]
      cases hc : (Int.gcd a b == 1) with
      | true =>
        simp only [Bool.not_true, Bool.false_eq_true, if_false]
        exact k hc l
      | false =>
        simp only [Bool.not_false, if_true]
        exact x hc l
    · cases h2
  · have h2' : q2 1 1000000000 d = false := by simpa using h2
    rw [h2']
    try simp only [x_seq, x_nil, x_drop, x_ret, x_retN, x_if, x_asg1, x_par, x_raise, xe_var, xe_c, xe_op1, xe_op2, xe_if, xa_nil, xa_cons, xe_call, xe_cb, xe_and, xe_or, xe_chain, xt_tru, xt_val, xt_not, xt_and, xt_or, xt_if, xt_yes, xit_val, xit_on, startD, xe_tup0, xe_tup1, xe_tup2, xe_tup3, xe_tup4, xe_tup5, xe_tup6, xe_lst0, xe_lst1, xe_lst2, xe_lst3, xe_lst4, xe_lst5, xe_lst6, xe_lst7, xe_lst8, xe_lst9, xe_lst10, xe_lst11, xe_lst12, xe_lst13, xe_lst14, xe_lst15, xe_lst16, so_add, so_sub, so_mul, so_fdiv, so_mod, so_lt, so_le, so_gt, so_ge, so_neg, so_notb, so_int, so_lenT, eq_int, ne_int, tru_int, tru_bl, tru_tup, tru_non, boolOf_bl, so_ix0, so_ix1, so_ix2, eq_str, ne_str, List.getElem?_cons_succ, List.getElem?_cons_zero, List.set_cons_succ, List.set_cons_zero, List.length_cons, List.length_nil, List.map_cons, List.map_nil, List.cons_append, List.nil_append, List.replicate, Nat.reduceAdd, Nat.zero_add, true_and]
    simp only [Bool.not_false, if_true]
    refine x ?_ l
    cases hr : rtB d with
    | false => rfl
    | true =>
      obtain ⟨p, rfl, hr'⟩ := rt_of hr
      exact absurd (show q2 1 1000000000 (pr p) = true by simp only [q2, isR_of hr'.a1 hr'.a2, isR_of hr'.b1 hr'.b2, Bool.and_self]) h2
theorem fp_co {a b : Int} (hb : 0 < b) (h : Int.gcd a b = 1) : fp a b = (a, b) := by
  obtain ⟨x, y⟩ := gcd_one_nu hb h
  exact Prod.ext x y
theorem q_testV {d : D} {δ : Sl} {i j m : Nat} {lo hi : Int} {P : Bool → SS → Prop} (hp : aP d = true) (hd : δ[i]? = some (some d)) (hj : j < δ.length) (hm : δ[m]? = some (some (.int hi))) (hmj : j ≠ m) (k : ∀ l, P (!q2 lo hi d) (S ++ l)) : XSat (tOr' (tNot' (tTru (eCB isiD (aCons (eVar i) (aCons (eC (.ty "tuple")) aNil))))) (tOr' (tVal (eOp2 (cmpD .NotEq) (eCB (one lenD) (aCons (eVar i) aNil)) (eC (.int 2)))) (tNot' (tTru (eCB (one allD) (aCons (eLc (iVal (eVar i)) (.one j) [j] tYes' (eCall (F_in_range C) 3 (aCons (eVar j) (aCons (eC (.int lo)) (aCons (eVar m) aNil))))) aNil))))) δ S) P X := by
  have k0 : q2 lo hi d = false → P true S := fun h => by
    have := k []
    rw [h, List.append_nil] at this
    exact this
  simp only [xt_or, xt_not, xt_tru, xt_val, xe_cb, xe_op2, xa_cons, xa_nil, xe_var, xe_c, hd]
  rcases nTup d with ⟨ds, rfl⟩ | hn
  · obtain ⟨hl, ha⟩ := aP_tup hp
    simp only [isi_tup_tup, tru_bl, Bool.not_true, Bool.false_eq_true, if_false, so_lenT, ne_int, boolOf_bl]
    by_cases h2 : ds.length = 2
    · match ds, h2 with
      | [x, y], _ =>
        simp only [List.length_cons, List.length_nil, Nat.zero_add, Nat.reduceAdd]
        have e2 : (!(((2 : Nat) : Int) == 2)) = false := rfl
        rw [e2]
        simp only [Bool.false_eq_true, if_false]
        refine Sat.x (lc_map (items := [x, y]) (g := fun d => .bl (isR d lo hi)) ?_ ?_ (show 2 ≤ 100000 by decide) fun l => ?_)
        · simp [it_val, iterD, gOk, hd]
        · intro d hd
          refine ⟨_, rfl, fun S' P kk => ?_⟩
          have hg : ((wipeD δ [j]).set j (some d))[j]? = some (some d) := by
            rw [List.getElem?_set_self]
            simp [wipeD, hj]
          have hgm : ((wipeD δ [j]).set j (some d))[m]? = some (some (.int hi)) := by
            rw [List.getElem?_set_ne hmj]
            show (δ.set j none)[m]? = _
            rw [List.getElem?_set_ne hmj, hm]
          refine XSat.s ?_
          simp only [xe_call, xa_cons, xa_nil, xe_var, hg, hgm, xe_c, List.length_cons, List.length_nil, Nat.zero_add, Nat.reduceAdd, true_and]
          refine (in_range_sat (aP_plain (ha d hd)) ?_).x
          have := kk []
          rwa [List.append_nil] at this
        · have hg : (S ++ MO.lst ([x, y].map fun d => D.bl (isR d lo hi)) :: l)[S.length]? = some (.lst ([x, y].map fun d => D.bl (isR d lo hi))) := by simp
          rw [all_map hg]
          simp only [tru_bl]
          have := k (MO.lst ([x, y].map fun d => D.bl (isR d lo hi)) :: l)
          simpa [q2] using this
    · have e2 : (!((ds.length : Int) == 2)) = true := by
        simp
        omega
      rw [e2]
      simp only [if_true]
      refine k0 ?_
      match ds, h2 with
      | [], _ => rfl
      | [_], _ => rfl
      | _ :: _ :: _ :: _, _ => rfl
      | [x, y], h => exact absurd rfl h
  · rw [isi_ntup hp hn]
    simp only [tru_bl, Bool.not_false, if_true]
    refine k0 ?_
    unfold q2
    split
    · exact absurd rfl (hn _)
    · rfl
/-! a fraction in a bound -/
def bdB (m : Int) : D → Bool
  | .tup [.int a, .int b] => (isR (.int a) 1 m && isR (.int b) 1 m) && (Int.gcd a b == 1)
  | _ => false
structure Bd (m : Int) (p : Int × Int) : Prop where
  a1 : 1 ≤ p.1
  a2 : p.1 ≤ m
  b1 : 1 ≤ p.2
  b2 : p.2 ≤ m
  co : Int.gcd p.1 p.2 = 1
theorem bdB_pr {m : Int} {p : Int × Int} : bdB m (pr p) = true ↔ Bd m p := by
  simp only [bdB, isR, Bool.and_eq_true, decide_eq_true_eq, beq_iff_eq]
  exact ⟨fun h => ⟨h.1.1.1, h.1.1.2, h.1.2.1, h.1.2.2, h.2⟩, fun h => ⟨⟨⟨h.a1, h.a2⟩, h.b1, h.b2⟩, h.co⟩⟩
theorem bd_of {m : Int} {d : D} (h : bdB m d = true) : ∃ p, d = pr p ∧ Bd m p := by
  unfold bdB at h
  split at h
  · rename_i a b
    exact ⟨(a, b), rfl, bdB_pr.mp h⟩
  · cases h
theorem is_bounded_sat {d : D} {m : Int} (hd : aP d = true) (k : ∀ l, P (.bl (bdB m d)) (S ++ l)) : Sat (F_is_bounded C [d, .int m] S) P := by
  rw [sem_is_bounded]
  refine XSat.s (x_fn ?_)
  unfold B_is_bounded
  simp only [startD, List.getElem?_cons_succ, List.getElem?_cons_zero, List.set_cons_succ, List.set_cons_zero, List.length_cons, List.length_nil, List.map_cons, List.map_nil, List.cons_append, List.nil_append, List.replicate, Nat.reduceAdd, Nat.zero_add, true_and]
  rw [x_seq, x_if]
  refine q_testV (hi := m) hd rfl (by decide : 2 < 3) rfl (by decide) fun l => ?_
  by_cases h2 : q2 1 m d = true
  · rw [h2]
    unfold q2 at h2
    split at h2
    · rw [Bool.and_eq_true] at h2
      obtain ⟨a, rfl, ha⟩ := isR_int h2.1
      obtain ⟨b, rfl, hb⟩ := isR_int h2.2
      have er : bdB m (.tup [.int a, .int b]) = (Int.gcd a b == 1) := by
        simp only [bdB, h2.1, h2.2, Bool.and_self, Bool.true_and]
      rw [er] at k
      simp only [Bool.not_true, Bool.false_eq_true, if_false]
      try simp only [x_seq, x_nil, x_drop, x_ret, x_retN, x_if, x_asg1, x_par, x_raise, xe_var, xe_c, xe_op1, xe_op2, xe_if, xa_nil, xa_cons, xe_call, xe_cb, xe_and, xe_or, xe_chain, xt_tru, xt_val, xt_not, xt_and, xt_or, xt_if, xt_yes, xit_val, xit_on, startD, xe_tup0, xe_tup1, xe_tup2, xe_tup3, xe_tup4, xe_tup5, xe_tup6, xe_lst0, xe_lst1, xe_lst2, xe_lst3, xe_lst4, xe_lst5, xe_lst6, xe_lst7, xe_lst8, xe_lst9, xe_lst10, xe_lst11, xe_lst12, xe_lst13, xe_lst14, xe_lst15, xe_lst16, so_add, so_sub, so_mul, so_fdiv, so_mod, so_lt, so_le, so_gt, so_ge, so_neg, so_notb, so_int, so_lenT, eq_int, ne_int, tru_int, tru_bl, tru_tup, tru_non, boolOf_bl, so_ix0, so_ix1, so_ix2, eq_str, ne_str, List.getElem?_cons_succ, List.getElem?_cons_zero, List.set_cons_succ, List.set_cons_zero, List.length_cons, List.length_nil, List.map_cons, List.map_nil, List.cons_append, List.nil_append, List.replicate, Nat.reduceAdd, Nat.zero_add, true_and]
      refine (common_divisor_sat ?_).x
      try simp only [x_seq, x_nil, x_drop, x_ret, x_retN, x_if, x_asg1, x_par, x_raise, xe_var, xe_c, xe_op1, xe_op2, xe_if, xa_nil, xa_cons, xe_call, xe_cb, xe_and, xe_or, xe_chain, xt_tru, xt_val, xt_not, xt_and, xt_or, xt_if, xt_yes, xit_val, xit_on, startD, xe_tup0, xe_tup1, xe_tup2, xe_tup3, xe_tup4, xe_tup5, xe_tup6, xe_lst0, xe_lst1, xe_lst2, xe_lst3, xe_lst4, xe_lst5, xe_lst6, xe_lst7, xe_lst8, xe_lst9, xe_lst10, xe_lst11, xe_lst12, xe_lst13, xe_lst14, xe_lst15, xe_lst16, so_add, so_sub, so_mul, so_fdiv, so_mod, so_lt, so_le, so_gt, so_ge, so_neg, so_notb, so_int, so_lenT, eq_int, ne_int, tru_int, tru_bl, tru_tup, tru_non, boolOf_bl, so_ix0, so_ix1, so_ix2, eq_str, ne_str, List.getElem?_cons_succ, List.getElem?_cons_zero, List.set_cons_succ, List.set_cons_zero, List.length_cons, List.length_nil, List.map_cons, List.map_nil, List.cons_append, List.nil_append, List.replicate, Nat.reduceAdd, Nat.zero_add, true_and]
      have e : (((Int.gcd a b : Nat) : Int) == 1) = (Int.gcd a b == 1) := by
        rw [Bool.eq_iff_iff]
        simp
        omega
      rw [e]
      exact k l
    · cases h2
  · have h2' : q2 1 m d = false := by simpa using h2
    rw [h2']
    try simp only [x_seq, x_nil, x_drop, x_ret, x_retN, x_if, x_asg1, x_par, x_raise, xe_var, xe_c, xe_op1, xe_op2, xe_if, xa_nil, xa_cons, xe_call, xe_cb, xe_and, xe_or, xe_chain, xt_tru, xt_val, xt_not, xt_and, xt_or, xt_if, xt_yes, xit_val, xit_on, startD, xe_tup0, xe_tup1, xe_tup2, xe_tup3, xe_tup4, xe_tup5, xe_tup6, xe_lst0, xe_lst1, xe_lst2, xe_lst3, xe_lst4, xe_lst5, xe_lst6, xe_lst7, xe_lst8, xe_lst9, xe_lst10, xe_lst11, xe_lst12, xe_lst13, xe_lst14, xe_lst15, xe_lst16, so_add, so_sub, so_mul, so_fdiv, so_mod, so_lt, so_le, so_gt, so_ge, so_neg, so_notb, so_int, so_lenT, eq_int, ne_int, tru_int, tru_bl, tru_tup, tru_non, boolOf_bl, so_ix0, so_ix1, so_ix2, eq_str, ne_str, List.getElem?_cons_succ, List.getElem?_cons_zero, List.set_cons_succ, List.set_cons_zero, List.length_cons, List.length_nil, List.map_cons, List.map_nil, List.cons_append, List.nil_append, List.replicate, Nat.reduceAdd, Nat.zero_add, true_and]
    simp only [Bool.not_false, if_true]
    have hr : bdB m d = false := by
      cases hr : bdB m d with
      | false => rfl
      | true =>
        obtain ⟨p, rfl, hp⟩ := bd_of hr
        exact absurd (show q2 1 m (pr p) = true by simp only [q2, isR_of hp.a1 hp.a2, isR_of hp.b1 hp.b2, Bool.and_self]) h2
    have := k l
    rw [hr] at this
    exact this
theorem demand_most_x {d : D} (hp : aP d = true) (x : isR d 1 1000000 = false → AE C X "most" S) (k : isR d 1 1000000 = true → P .non S) : XSat (F_demand_most C [d] S) P X := by
  rw [sem_demand_most]
  refine x_fn ?_
  unfold B_demand_most
  try simp only [x_seq, x_nil, x_drop, x_ret, x_retN, x_if, x_asg1, x_par, x_raise, xe_var, xe_c, xe_op1, xe_op2, xe_if, xa_nil, xa_cons, xe_call, xe_cb, xe_and, xe_or, xe_chain, xt_tru, xt_val, xt_not, xt_and, xt_or, xt_if, xt_yes, xit_val, xit_on, startD, xe_tup0, xe_tup1, xe_tup2, xe_tup3, xe_tup4, xe_tup5, xe_tup6, xe_lst0, xe_lst1, xe_lst2, xe_lst3, xe_lst4, xe_lst5, xe_lst6, xe_lst7, xe_lst8, xe_lst9, xe_lst10, xe_lst11, xe_lst12, xe_lst13, xe_lst14, xe_lst15, xe_lst16, so_add, so_sub, so_mul, so_fdiv, so_mod, so_lt, so_le, so_gt, so_ge, so_neg, so_notb, so_int, so_lenT, eq_int, ne_int, tru_int, tru_bl, tru_tup, tru_non, boolOf_bl, so_ix0, so_ix1, so_ix2, eq_str, ne_str, List.getElem?_cons_succ, List.getElem?_cons_zero, List.set_cons_succ, List.set_cons_zero, List.length_cons, List.length_nil, List.map_cons, List.map_nil, List.cons_append, List.nil_append, List.replicate, Nat.reduceAdd, Nat.zero_add, true_and]
  refine (in_range_sat (aP_plain hp) ?_).x
  simp only [tru_bl]
  cases h : isR d 1 1000000 with
  | true =>
    simp only [Bool.not_true, Bool.false_eq_true, if_false]
    exact k h
  | false =>
    simp only [Bool.not_false, if_true]
    exact x h
/-! same_value -/
end
end K27
set_option Elab.async false
set_option linter.all false
set_option maxRecDepth 100000
set_option maxHeartbeats 2000000
namespace K27
open PySem L2 DL
section
variable {C : CA} {S : SS} {P : D → SS → Prop} {X : XQ}
/-! room -/
theorem so_minL1 {k : Nat} {a : Int} (h : S[k]? = some (.lst [.int a])) : SatO (minD [.ref k] S) P = P (.int a) S := by
  unfold minD itemsD
  simp only [h]
  rfl
theorem so_minL2 {k : Nat} {a b : Int} (h : S[k]? = some (.lst [.int a, .int b])) : SatO (minD [.ref k] S) P = P (.int (min a b)) S := by
  unfold minD itemsD
  simp only [h]
  rfl
theorem so_maxT2 {a b : Int} : SatO (maxD [.tup [.int a, .int b]] S) P = P (.int (max a b)) S := rfl
theorem so_min2 {a b : Int} : SatO (minD [.int a, .int b] S) P = P (.int (min a b)) S := by
  show P (.int (if b < a then b else a)) S = _
  congr 2
  split <;> omega
theorem so_max2 {a b : Int} : SatO (maxD [.int a, .int b] S) P = P (.int (max a b)) S := by
  show P (.int (if b > a then b else a)) S = _
  congr 2
  split <;> omega
def rmI (m : Int) (M F : Int × Int) : Int := if 0 < F.1 then (if 0 < F.2 then min ((m - M.1) / F.1) ((m - M.2) / F.2) else (m - M.1) / F.1) else (m - M.2) / F.2
def cR : D → Bool
  | .tup [_, .int s] => decide (0 < s)
  | _ => false
def gR (m : Int) : D → D
  | .tup [.int p, .int s] => .int ((m - p) / s)
  | d => d
theorem room_sat {m : Int} {M F : Int × Int} {δ : Sl} (hm : m.natAbs < 2 ^ 21) (hM1 : M.1.natAbs < 2 ^ 21) (hM2 : M.2.natAbs < 2 ^ 21) (hF1 : F.1.natAbs < 2 ^ 21) (hF2 : F.2.natAbs < 2 ^ 21) (hF : 0 < F.1 ∨ 0 < F.2) (h3 : δ[3]? = some (some (.int m))) (h8 : δ[8]? = some (some (pr F))) (h9 : δ[9]? = some (some (pr M))) (hl : δ.length = 12) (k : ∀ l, P (.int (rmI m M F)) (S ++ l)) :
    XSat (eCB minD (aCons (eLc (iOn zpD (aCons (eVar 9) (aCons (eVar 8) aNil))) (.many [10, 11]) [10, 11] (tVal (eOp2 (cmpD .Gt) (eVar 11) (eC (.int 0)))) (eOp2 (binD .FloorDiv) (eOp2 (binD .Sub) (eVar 3) (eVar 10)) (eVar 11))) aNil) δ S) P X := by
  simp only [xe_cb, xa_cons, xa_nil]
  refine (lc_filtA (S0 := S) (items := [.tup [.int M.1, .int F.1], .tup [.int M.2, .int F.2]]) (c := cR) (g := gR m) ?_ (fun d hd => ?_) (show 2 ≤ 100000 by decide) fun l => ?_).x
  · refine XSat.s ?_
    simp only [xit_on, xa_cons, xa_nil, xe_var, h8, h9]
    first
      | exact ⟨fun l => trivial, trivial⟩
      | exact ⟨fun l => trivial, trivial, trivial⟩
      | exact ⟨fun l => trivial, trivial, rfl⟩
  · have hd' : ∃ a s : Int, d = .tup [.int a, .int s] ∧ a.natAbs < 2 ^ 21 ∧ s.natAbs < 2 ^ 21 := by
      simp only [List.mem_cons, List.not_mem_nil, or_false] at hd
      rcases hd with rfl | rfl
      · exact ⟨_, _, rfl, hM1, hF1⟩
      · exact ⟨_, _, rfl, hM2, hF2⟩
    obtain ⟨a, s, rfl, ha, hs⟩ := hd'
    refine ⟨_, rfl, fun l0 Q kk => XSat.s ?_, fun l0 Q hc kk => XSat.s ?_⟩
    · have e11 : (setsD [10, 11] [.int a, .int s] (wipeD δ [10, 11]))[11]? = some (some (.int s)) := by
        simp [setsD, wipeD, hl]
      simp only [xt_val, xe_op2, xe_var, e11, xe_c, so_gt, boolOf_bl]
      have := kk []
      rwa [List.append_nil] at this
    · have e11 : (setsD [10, 11] [.int a, .int s] (wipeD δ [10, 11]))[11]? = some (some (.int s)) := by
        simp [setsD, wipeD, hl]
      have e10 : (setsD [10, 11] [.int a, .int s] (wipeD δ [10, 11]))[10]? = some (some (.int a)) := by
        simp [setsD, wipeD, hl]
      have e3 : (setsD [10, 11] [.int a, .int s] (wipeD δ [10, 11]))[3]? = some (some (.int m)) := by
        show (((wipeD δ [10, 11]).set 10 (some (.int a))).set 11 (some (.int s)))[3]? = _
        rw [List.getElem?_set_ne (by decide), List.getElem?_set_ne (by decide)]
        first
          | show ((δ.set 10 none).set 11 none)[3]? = _
          | show ((δ.set 11 none).set 10 none)[3]? = _
        rw [List.getElem?_set_ne (by decide), List.getElem?_set_ne (by decide), h3]
      have hc : 0 < s := of_decide_eq_true hc
      simp only [xe_op2, xe_var, e11, e10, e3, so_sub, so_fdiv]
      refine ⟨divOk64 (by omega) (by omega), ?_⟩
      rw [fdiv_pos hc]
      have := kk []
      rwa [List.append_nil] at this
  · have kk := fun l => k (MO.lst (([D.tup [.int M.1, .int F.1], .tup [.int M.2, .int F.2]].filter cR).map (gR m)) :: l)
    unfold rmI at kk
    by_cases c1 : 0 < F.1
    · have t1 : cR (.tup [.int M.1, .int F.1]) = true := decide_eq_true c1
      by_cases c2 : 0 < F.2
      · have t2 : cR (.tup [.int M.2, .int F.2]) = true := decide_eq_true c2
        have e : ([D.tup [.int M.1, .int F.1], .tup [.int M.2, .int F.2]].filter cR).map (gR m) = [.int ((m - M.1) / F.1), .int ((m - M.2) / F.2)] := by simp only [List.filter_cons, t1, t2, if_true, List.filter_nil, List.map_cons, List.map_nil, gR]
        rw [e] at kk ⊢
        rw [so_minL2 (a := (m - M.1) / F.1) (b := (m - M.2) / F.2) (by simp)]
        simp only [c1, c2, if_true] at kk
        exact kk l
      · have t2 : cR (.tup [.int M.2, .int F.2]) = false := decide_eq_false c2
        have e : ([D.tup [.int M.1, .int F.1], .tup [.int M.2, .int F.2]].filter cR).map (gR m) = [.int ((m - M.1) / F.1)] := by simp only [List.filter_cons, t1, t2, if_true, Bool.false_eq_true, if_false, List.filter_nil, List.map_cons, List.map_nil, gR]
        rw [e] at kk ⊢
        rw [so_minL1 (a := (m - M.1) / F.1) (by simp)]
        simp only [c1, c2, if_true, if_false] at kk
        exact kk l
    · have c2 : 0 < F.2 := by omega
      have t1 : cR (.tup [.int M.1, .int F.1]) = false := decide_eq_false c1
      have t2 : cR (.tup [.int M.2, .int F.2]) = true := decide_eq_true c2
      have e : ([D.tup [.int M.1, .int F.1], .tup [.int M.2, .int F.2]].filter cR).map (gR m) = [.int ((m - M.2) / F.2)] := by simp only [List.filter_cons, t1, t2, if_true, Bool.false_eq_true, if_false, List.filter_nil, List.map_cons, List.map_nil, gR]
      rw [e] at kk ⊢
      rw [so_minL1 (a := (m - M.2) / F.2) (by simp)]
      simp only [c1, if_false] at kk
      exact kk l
/-! steps -/
def stU (p q m a b c d : Int) : Int := min (rmI m (a, b) (c, d)) ((p * b - q * a) / (q * c - p * d))
def stD (p q m a b c d : Int) : Int := min (rmI m (c, d) (a, b)) ((q * c - p * d) / (p * b - q * a))
section
variable {p q m a b c d : Int} (h : Nb p q m a b c d) (hp : p ≤ 1000000000) (hq : q ≤ 1000000000) (hm : m ≤ 1000000)
include h hp hq hm
theorem Nb.sz : (p.natAbs < 2 ^ 30 ∧ q.natAbs < 2 ^ 30) ∧ (a.natAbs < 2 ^ 20 ∧ b.natAbs < 2 ^ 20) ∧ (c.natAbs < 2 ^ 20 ∧ d.natAbs < 2 ^ 20) ∧ m.natAbs < 2 ^ 20 := by
  have := h.p1; have := h.q1; have := h.a0; have := h.b1; have := h.c1; have := h.d0; have := h.am; have := h.bm; have := h.cm; have := h.dm
  refine ⟨⟨?_, ?_⟩, ⟨?_, ?_⟩, ⟨?_, ?_⟩, ?_⟩ <;> omega
theorem steps_up_sat (k : ∀ l, P (.int (stU p q m a b c d)) (S ++ l)) : Sat (F_steps_towards C [pr (a, b), pr (c, d), pr (p, q), .int m, .bl true] S) P := by
  obtain ⟨⟨z1, z2⟩, ⟨z3, z4⟩, ⟨z5, z6⟩, z7⟩ := h.sz hp hq hm
  have c1 := h.c1
  have gn : q * c - p * d > 0 := by have := h.hi; have : c * q = q * c := Int.mul_comm ..; omega
  rw [sem_steps_towards]
  refine XSat.s (x_fn ?_)
  unfold B_steps_towards
  rw [x_seq, x_asgN]
  simp only [xe_if, xt_tru, xe_var, tru_bl, if_true, xe_tup2, bind_many2, startD, List.getElem?_cons_succ, List.getElem?_cons_zero, List.set_cons_succ, List.set_cons_zero, List.length_cons, List.length_nil, List.map_cons, List.map_nil, List.cons_append, List.nil_append, List.replicate, Nat.reduceAdd, Nat.zero_add, true_and]
  rw [x_seq, x_asg1]
  refine room_sat (m := m) (M := (a, b)) (F := (c, d)) (by omega) (by show a.natAbs < _; omega) (by show b.natAbs < _; omega) (by show c.natAbs < _; omega) (by show d.natAbs < _; omega) (.inl (by show 0 < c; omega)) rfl rfl rfl rfl fun l => ?_
  unfold stU at k
  generalize rmI m (a, b) (c, d) = r at *
  simp only [List.set_cons_succ, List.set_cons_zero]
  rw [x_seq, x_asg1]
  simp only [xe_op2, xe_var, xe_c, so_ix0, so_ix1, so_mul, so_sub, List.getElem?_cons_succ, List.getElem?_cons_zero, List.set_cons_succ, List.set_cons_zero, List.length_cons, List.length_nil, List.map_cons, List.map_nil, List.cons_append, List.nil_append, List.replicate, Nat.reduceAdd, Nat.zero_add, true_and]
  refine ⟨mulOk64 (by omega) (by omega), mulOk64 (by omega) (by omega), ?_⟩
  rw [x_seq, x_asg1]
  simp only [xe_op2, xe_var, xe_c, so_ix0, so_ix1, so_mul, so_sub, List.getElem?_cons_succ, List.getElem?_cons_zero, List.set_cons_succ, List.set_cons_zero, List.length_cons, List.length_nil, List.map_cons, List.map_nil, List.cons_append, List.nil_append, List.replicate, Nat.reduceAdd, Nat.zero_add, true_and]
  refine ⟨mulOk64 (by omega) (by omega), mulOk64 (by omega) (by omega), ?_⟩
  have b1 : (q * c - p * d).natAbs < 2 ^ 51 := sub_lt (mul_lt z2 z5) (mul_lt z1 z6)
  generalize q * c - p * d = H at *
  generalize p * b - q * a = L at *
  rw [x_seq, x_if]
  simp only [xt_not, xt_tru, xe_var, tru_bl, Bool.not_true, Bool.false_eq_true, if_false, x_nil, List.getElem?_cons_succ, List.getElem?_cons_zero, List.set_cons_succ, List.set_cons_zero, List.length_cons, List.length_nil, List.map_cons, List.map_nil, List.cons_append, List.nil_append, List.replicate, Nat.reduceAdd, Nat.zero_add, true_and]
  rw [x_seq, x_ret]
  simp only [xe_if, xt_val, xe_op2, xe_var, xe_c, eq_int, boolOf_bl, List.getElem?_cons_succ, List.getElem?_cons_zero, List.set_cons_succ, List.set_cons_zero, List.length_cons, List.length_nil, List.map_cons, List.map_nil, List.cons_append, List.nil_append, List.replicate, Nat.reduceAdd, Nat.zero_add, true_and]
  have e0 : (H == 0) = false := by simp; omega
  rw [e0]
  simp only [Bool.false_eq_true, if_false, xe_cb, xe_op2, xa_cons, xa_nil, xe_var, so_fdiv, List.getElem?_cons_succ, List.getElem?_cons_zero, List.set_cons_succ, List.set_cons_zero, List.length_cons, List.length_nil, List.map_cons, List.map_nil, List.cons_append, List.nil_append, List.replicate, Nat.reduceAdd, Nat.zero_add, true_and]
  refine ⟨divOk64 (by omega) (by omega), ?_⟩
  rw [fdiv_pos gn, so_min2]
  exact k l
theorem steps_down_sat (k : ∀ l, P (.int (stD p q m a b c d)) (S ++ l)) : Sat (F_steps_towards C [pr (a, b), pr (c, d), pr (p, q), .int m, .bl false] S) P := by
  obtain ⟨⟨z1, z2⟩, ⟨z3, z4⟩, ⟨z5, z6⟩, z7⟩ := h.sz hp hq hm
  have c1 := h.b1
  have gn : p * b - q * a > 0 := by have := h.lo; have : a * q = q * a := Int.mul_comm ..; omega
  rw [sem_steps_towards]
  refine XSat.s (x_fn ?_)
  unfold B_steps_towards
  rw [x_seq, x_asgN]
  simp only [xe_if, xt_tru, xe_var, tru_bl, Bool.false_eq_true, if_false, xe_tup2, bind_many2, startD, List.getElem?_cons_succ, List.getElem?_cons_zero, List.set_cons_succ, List.set_cons_zero, List.length_cons, List.length_nil, List.map_cons, List.map_nil, List.cons_append, List.nil_append, List.replicate, Nat.reduceAdd, Nat.zero_add, true_and]
  rw [x_seq, x_asg1]
  refine room_sat (m := m) (M := (c, d)) (F := (a, b)) (by omega) (by show c.natAbs < _; omega) (by show d.natAbs < _; omega) (by show a.natAbs < _; omega) (by show b.natAbs < _; omega) (.inr (by show 0 < b; omega)) rfl rfl rfl rfl fun l => ?_
  unfold stD at k
  generalize rmI m (c, d) (a, b) = r at *
  simp only [List.set_cons_succ, List.set_cons_zero]
  rw [x_seq, x_asg1]
  simp only [xe_op2, xe_var, xe_c, so_ix0, so_ix1, so_mul, so_sub, List.getElem?_cons_succ, List.getElem?_cons_zero, List.set_cons_succ, List.set_cons_zero, List.length_cons, List.length_nil, List.map_cons, List.map_nil, List.cons_append, List.nil_append, List.replicate, Nat.reduceAdd, Nat.zero_add, true_and]
  refine ⟨mulOk64 (by omega) (by omega), mulOk64 (by omega) (by omega), ?_⟩
  rw [x_seq, x_asg1]
  simp only [xe_op2, xe_var, xe_c, so_ix0, so_ix1, so_mul, so_sub, List.getElem?_cons_succ, List.getElem?_cons_zero, List.set_cons_succ, List.set_cons_zero, List.length_cons, List.length_nil, List.map_cons, List.map_nil, List.cons_append, List.nil_append, List.replicate, Nat.reduceAdd, Nat.zero_add, true_and]
  refine ⟨mulOk64 (by omega) (by omega), mulOk64 (by omega) (by omega), ?_⟩
  rw [x_seq, x_if]
  simp only [xt_not, xt_tru, xe_var, tru_bl, Bool.not_false, if_true, x_seq, x_par, xe_op1, so_neg, x_nil, List.getElem?_cons_succ, List.getElem?_cons_zero, List.set_cons_succ, List.set_cons_zero, List.length_cons, List.length_nil, List.map_cons, List.map_nil, List.cons_append, List.nil_append, List.replicate, Nat.reduceAdd, Nat.zero_add, true_and]
  have e1 : -(p * d - q * c) = q * c - p * d := by omega
  have e2 : -(q * a - p * b) = p * b - q * a := by omega
  rw [e1, e2]
  have b1 : (p * b - q * a).natAbs < 2 ^ 51 := sub_lt (mul_lt z1 z4) (mul_lt z2 z3)
  generalize q * c - p * d = H at *
  generalize p * b - q * a = L at *
  rw [x_ret]
  simp only [xe_if, xt_val, xe_op2, xe_var, xe_c, eq_int, boolOf_bl, List.getElem?_cons_succ, List.getElem?_cons_zero, List.set_cons_succ, List.set_cons_zero, List.length_cons, List.length_nil, List.map_cons, List.map_nil, List.cons_append, List.nil_append, List.replicate, Nat.reduceAdd, Nat.zero_add, true_and]
  have e0 : (L == 0) = false := by simp; omega
  rw [e0]
  simp only [Bool.false_eq_true, if_false, xe_cb, xe_op2, xa_cons, xa_nil, xe_var, so_fdiv, List.getElem?_cons_succ, List.getElem?_cons_zero, List.set_cons_succ, List.set_cons_zero, List.length_cons, List.length_nil, List.map_cons, List.map_nil, List.cons_append, List.nil_append, List.replicate, Nat.reduceAdd, Nat.zero_add, true_and]
  refine ⟨divOk64 (by omega) (by omega), ?_⟩
  rw [fdiv_pos gn, so_min2]
  exact k l
end
end
end K27
set_option Elab.async false
set_option linter.all false
set_option maxRecDepth 100000
set_option maxHeartbeats 2000000
namespace K27
open PySem L2 DL
section
variable {C : CA} {S : SS} {P : D → SS → Prop} {X : XQ}
theorem never_eq {p q m x y : Int} (p1 : 1 ≤ p) (q1 : 1 ≤ q) (g : Int.gcd p q = 1) (hb : m < max p q) (x0 : 0 ≤ x) (xm : x ≤ m) (y1 : 1 ≤ y) (ym : y ≤ m) : x * q ≠ p * y := fun e => by
  have d1 : p ∣ x := dvd_co g ⟨y, e⟩
  have d2 : q ∣ y := dvd_co (by rw [Int.gcd_comm]; exact g) ⟨x, by rw [Int.mul_comm y p, ← e, Int.mul_comm]⟩
  have x1 : x ≠ 0 := fun h => by
    subst h
    have := Int.mul_pos (show 0 < p by omega) (show 0 < y by omega)
    omega
  have e1 := Int.le_of_dvd (by omega) d1
  have e2 := Int.le_of_dvd (by omega) d2
  omega
theorem rm_ok {m : Int} {M F : Int × Int} (f1 : 0 ≤ F.1) (f2 : 0 ≤ F.2) (hF : 0 < F.1 ∨ 0 < F.2) (m1 : M.1 ≤ m) (m2 : M.2 ≤ m) :
    0 ≤ rmI m M F ∧ (∀ k, 0 ≤ k → k ≤ rmI m M F → M.1 + k * F.1 ≤ m ∧ M.2 + k * F.2 ≤ m) ∧ (rmI m M F = 0 → m < M.1 + F.1 ∨ m < M.2 + F.2) := by
  have dv : ∀ {f g k : Int}, 0 < f → k ≤ g / f → k * f ≤ g := fun {f g k} h1 h2 => Int.mul_le_of_le_ediv h1 h2
  have nn : ∀ {f g : Int}, 0 < f → 0 ≤ g → 0 ≤ g / f := fun h1 h2 => Int.ediv_nonneg h2 (by omega)
  have zr : ∀ {f g : Int}, 0 < f → g / f = 0 → g < f := fun {f g} h1 h2 => by
    have := Int.lt_ediv_add_one_mul_self g h1
    rw [h2] at this
    omega
  unfold rmI
  by_cases c1 : 0 < F.1
  · by_cases c2 : 0 < F.2
    · simp only [c1, c2, if_true]
      have n1 := nn c1 (show 0 ≤ m - M.1 by omega)
      have n2 := nn c2 (show 0 ≤ m - M.2 by omega)
      refine ⟨by omega, fun k k0 hk => ?_, fun h => ?_⟩
      · have a1 := dv c1 (show k ≤ (m - M.1) / F.1 by omega)
        have a2 := dv c2 (show k ≤ (m - M.2) / F.2 by omega)
        omega
      · rcases (show (m - M.1) / F.1 = 0 ∨ (m - M.2) / F.2 = 0 by omega) with h | h
        · have := zr c1 h
          omega
        · have := zr c2 h
          omega
    · simp only [c1, c2, if_true, if_false]
      have n1 := nn c1 (show 0 ≤ m - M.1 by omega)
      refine ⟨by omega, fun k k0 hk => ?_, fun h => ?_⟩
      · have a1 := dv c1 hk
        have : F.2 = 0 := by omega
        rw [this, Int.mul_zero]
        omega
      · have := zr c1 h
        omega
  · have c2 : 0 < F.2 := by omega
    simp only [c1, if_false]
    have n1 := nn c2 (show 0 ≤ m - M.2 by omega)
    refine ⟨by omega, fun k k0 hk => ?_, fun h => ?_⟩
    · have a1 := dv c2 hk
      have : F.1 = 0 := by omega
      rw [this, Int.mul_zero]
      omega
    · have := zr c2 h
      omega
section
variable {p q m a b c d : Int} (h : Nb p q m a b c d) (g : Int.gcd p q = 1) (hb : m < max p q)
include h g hb
theorem up_ok : 0 ≤ stU p q m a b c d ∧ Nb p q m (a + stU p q m a b c d * c) (b + stU p q m a b c d * d) c d := by
  have c1 := h.c1
  obtain ⟨r0, r1, r2⟩ := rm_ok (m := m) (M := (a, b)) (F := (c, d)) (by show 0 ≤ c; omega) h.d0 (.inl (by show 0 < c; omega)) h.am h.bm
  have hH : 0 < q * c - p * d := by have := h.hi; have : c * q = q * c := Int.mul_comm ..; omega
  have hL : 0 < p * b - q * a := by have := h.lo; have : a * q = q * a := Int.mul_comm ..; omega
  have l0 : 0 ≤ (p * b - q * a) / (q * c - p * d) := Int.ediv_nonneg (by omega) (by omega)
  have k0 : 0 ≤ stU p q m a b c d := by unfold stU; omega
  have k1 : stU p q m a b c d ≤ rmI m (a, b) (c, d) := by unfold stU; omega
  have k2 : stU p q m a b c d ≤ (p * b - q * a) / (q * c - p * d) := by unfold stU; omega
  have k3 := Int.mul_le_of_le_ediv hH k2
  obtain ⟨s1, s2⟩ := r1 _ k0 k1
  generalize stU p q m a b c d = k at *
  refine ⟨k0, h.up k0 s1 s2 ?_⟩
  have b1 := h.b1
  have a0 := h.a0
  have n1 := Int.mul_nonneg k0 h.c0
  have n2 := Int.mul_nonneg k0 h.d0
  have ne := never_eq h.p1 h.q1 g hb (x := a + k * c) (y := b + k * d) (by omega) s1 (by omega) s2
  have le : (a + k * c) * q ≤ p * (b + k * d) := by
    have e1 : (a + k * c) * q = a * q + k * c * q := by grind
    have e2 : p * (b + k * d) = p * b + k * d * p := by grind
    have e3 : k * (q * c - p * d) = k * c * q - k * d * p := by grind
    have e4 : q * a = a * q := Int.mul_comm ..
    omega
  omega
theorem down_ok : 0 ≤ stD p q m a b c d ∧ Nb p q m a b (c + stD p q m a b c d * a) (d + stD p q m a b c d * b) := by
  have b1 := h.b1
  obtain ⟨r0, r1, r2⟩ := rm_ok (m := m) (M := (c, d)) (F := (a, b)) h.a0 (by show 0 ≤ b; omega) (.inr (by show 0 < b; omega)) h.cm h.dm
  have hH : 0 < q * c - p * d := by have := h.hi; have : c * q = q * c := Int.mul_comm ..; omega
  have hL : 0 < p * b - q * a := by have := h.lo; have : a * q = q * a := Int.mul_comm ..; omega
  have l0 : 0 ≤ (q * c - p * d) / (p * b - q * a) := Int.ediv_nonneg (by omega) (by omega)
  have k0 : 0 ≤ stD p q m a b c d := by unfold stD; omega
  have k1 : stD p q m a b c d ≤ rmI m (c, d) (a, b) := by unfold stD; omega
  have k2 : stD p q m a b c d ≤ (q * c - p * d) / (p * b - q * a) := by unfold stD; omega
  have k3 := Int.mul_le_of_le_ediv hL k2
  obtain ⟨s1, s2⟩ := r1 _ k0 k1
  generalize stD p q m a b c d = k at *
  refine ⟨k0, h.down k0 s1 s2 ?_⟩
  have c1 := h.c1
  have d0 := h.d0
  have n1 := Int.mul_nonneg k0 h.a0
  have n2 := Int.mul_nonneg k0 h.b0
  have ne := never_eq h.q1 h.p1 (by rw [Int.gcd_comm]; exact g) (by omega : m < max q p) (x := d + k * b) (y := c + k * a) (by omega) s2 (by omega) s1
  have le : p * (d + k * b) ≤ (c + k * a) * q := by
    have e1 : (c + k * a) * q = c * q + k * a * q := by grind
    have e2 : p * (d + k * b) = p * d + k * b * p := by grind
    have e3 : k * (p * b - q * a) = k * b * p - k * a * q := by grind
    have e4 : q * c = c * q := Int.mul_comm ..
    omega
  have e5 : (d + k * b) * p = p * (d + k * b) := Int.mul_comm ..
  have e6 : q * (c + k * a) = (c + k * a) * q := Int.mul_comm ..
  omega
omit g hb in
theorem done_ok (hu : stU p q m a b c d = 0) (hd : stD p q m a b c d = 0) : NbF p q m a b c d := by
  refine ⟨h, ?_⟩
  have b1 := h.b1
  have c1 := h.c1
  obtain ⟨r0, r1, r2⟩ := rm_ok (m := m) (M := (a, b)) (F := (c, d)) (by show 0 ≤ c; omega) h.d0 (.inl (by show 0 < c; omega)) h.am h.bm
  obtain ⟨t0, t1, t2⟩ := rm_ok (m := m) (M := (c, d)) (F := (a, b)) h.a0 (by show 0 ≤ b; omega) (.inr (by show 0 < b; omega)) h.cm h.dm
  have hH : 0 < q * c - p * d := by have := h.hi; have : c * q = q * c := Int.mul_comm ..; omega
  have hL : 0 < p * b - q * a := by have := h.lo; have : a * q = q * a := Int.mul_comm ..; omega
  have l0 : 0 ≤ (p * b - q * a) / (q * c - p * d) := Int.ediv_nonneg (by omega) (by omega)
  have m0 : 0 ≤ (q * c - p * d) / (p * b - q * a) := Int.ediv_nonneg (by omega) (by omega)
  unfold stU at hu
  unfold stD at hd
  have zr : ∀ {f g : Int}, 0 < f → g / f = 0 → g < f := fun {f g} h1 h2 => by
    have := Int.lt_ediv_add_one_mul_self g h1
    rw [h2] at this
    omega
  rcases (show rmI m (a, b) (c, d) = 0 ∨ (p * b - q * a) / (q * c - p * d) = 0 by omega) with e | e
  · exact r2 e
  · rcases (show rmI m (c, d) (a, b) = 0 ∨ (q * c - p * d) / (p * b - q * a) = 0 by omega) with e' | e'
    · have : m < c + a ∨ m < d + b := t2 e'
      omega
    · have := zr hH e
      have := zr hL e'
      omega
end
/-! the neighbours -/
def msr (m a b c d : Int) (g : Bool) : Nat := 2 * (4 * m - (a + b + c + d)).toNat + (if g then 1 else 0)
theorem neighbours_sat {r : Int × Int} {m : Int} (h : Rt r) (m1 : 1 ≤ m) (m2 : m ≤ 1000000) (hb : m < max r.1 r.2) (k : ∀ a b c d l, NbF r.1 r.2 m a b c d → P (.tup [pr (a, b), pr (c, d)]) (S ++ l)) : Sat (F_neighbours C [pr r, .int m] S) P := by
  have hp := h.a1; have hq := h.b1; have hp2 := h.a2; have hq2 := h.b2
  rw [sem_neighbours]
  refine XSat.s (x_fn ?_)
  unfold B_neighbours
  rw [x_seq, x_asg1]
  simp only [xe_tup2, xe_c, startD, List.getElem?_cons_succ, List.getElem?_cons_zero, List.set_cons_succ, List.set_cons_zero, List.length_cons, List.length_nil, List.map_cons, List.map_nil, List.cons_append, List.nil_append, List.replicate, Nat.reduceAdd, Nat.zero_add, true_and]
  rw [x_seq, x_asg1]
  simp only [xe_tup2, xe_c, List.getElem?_cons_succ, List.getElem?_cons_zero, List.set_cons_succ, List.set_cons_zero, List.length_cons, List.length_nil, List.map_cons, List.map_nil, List.cons_append, List.nil_append, List.replicate, Nat.reduceAdd, Nat.zero_add, true_and]
  rw [x_seq, x_asg1]
  simp only [xe_c, List.getElem?_cons_succ, List.getElem?_cons_zero, List.set_cons_succ, List.set_cons_zero, List.length_cons, List.length_nil, List.map_cons, List.map_nil, List.cons_append, List.nil_append, List.replicate, Nat.reduceAdd, Nat.zero_add, true_and]
  rw [x_seq]
  have nb0 : Nb r.1 r.2 m 0 1 1 0 := ⟨hp, hq, by decide, by decide, by decide, by decide, by omega, m1, m1, by omega, by decide, by omega, by omega⟩
  refine x_while (fun μ δ S' => ∃ a b c d g o5 o6, Nb r.1 r.2 m a b c d ∧ (g = false → NbF r.1 r.2 m a b c d) ∧ msr m a b c d g ≤ μ ∧ (∃ l, S' = S ++ l) ∧ δ = [some (pr r), some (.int m), some (pr (a, b)), some (pr (c, d)), some (.bl g), o5, o6]) ?_ (msr m 0 1 1 0 true) _ _ ⟨0, 1, 1, 0, true, none, none, nb0, fun h => (by cases h), Nat.le_refl _, ⟨[], by simp⟩, rfl⟩
  rintro μ δ S' ⟨a, b, c, d, g, o5, o6, nb, hf, hμ, ⟨l, rfl⟩, rfl⟩
  have n1 : (a, b) ≠ r := fun e => by
    have e1 : a = r.1 := congrArg Prod.fst e
    have e2 : b = r.2 := congrArg Prod.snd e
    have := nb.lo
    rw [e1, e2] at this
    omega
  have n2 : (c, d) ≠ r := fun e => by
    have e1 : c = r.1 := congrArg Prod.fst e
    have e2 : d = r.2 := congrArg Prod.snd e
    have := nb.hi
    rw [e1, e2] at this
    omega
  have ne1 : ∀ (S : SS) (Q : D → SS → Prop), SatO (cmpD .NotEq (pr (a, b)) (pr r) S) Q = Q (.bl true) S := fun S Q => by
    rw [ne_pr, decide_eq_false n1]
    rfl
  have ne2 : ∀ (S : SS) (Q : D → SS → Prop), SatO (cmpD .NotEq (pr (c, d)) (pr r) S) Q = Q (.bl true) S := fun S Q => by
    rw [ne_pr, decide_eq_false n2]
    rfl
  simp only [xt_and, xt_tru, xt_val, xe_op2, xe_var, tru_bl, List.getElem?_cons_succ, List.getElem?_cons_zero, List.set_cons_succ, List.set_cons_zero, List.length_cons, List.length_nil, List.map_cons, List.map_nil, List.cons_append, List.nil_append, List.replicate, Nat.reduceAdd, Nat.zero_add, true_and]
  cases g with
  | false =>
    simp only [Bool.false_eq_true, if_false]
    rw [x_seq, x_ret]
    simp only [xe_tup2, xe_var, List.getElem?_cons_succ, List.getElem?_cons_zero, List.set_cons_succ, List.set_cons_zero, List.length_cons, List.length_nil, List.map_cons, List.map_nil, List.cons_append, List.nil_append, List.replicate, Nat.reduceAdd, Nat.zero_add, true_and]
    exact k a b c d l (hf rfl)
  | true =>
    simp only [if_true, ne1, ne2, boolOf_bl]
    rw [x_seq, x_asg1]
    simp only [xe_c, List.getElem?_cons_succ, List.getElem?_cons_zero, List.set_cons_succ, List.set_cons_zero, List.length_cons, List.length_nil, List.map_cons, List.map_nil, List.cons_append, List.nil_append, List.replicate, Nat.reduceAdd, Nat.zero_add, true_and]
    rw [x_seq]
    refine x_for ?_
    simp only [xit_val, xe_tup2, xe_c, iterD, List.getElem?_cons_succ, List.getElem?_cons_zero, List.set_cons_succ, List.set_cons_zero, List.length_cons, List.length_nil, List.map_cons, List.map_nil, List.cons_append, List.nil_append, List.replicate, Nat.reduceAdd, Nat.zero_add, true_and]
    obtain ⟨u0, nu⟩ := up_ok nb h.co hb
    obtain ⟨v0, nv⟩ := down_ok nu h.co hb
    refine ⟨fun j δ S' => (∃ l, S' = S ++ l) ∧ ∃ o5 o6, match j with
      | 0 => δ = [some (pr r), some (.int m), some (pr (a, b)), some (pr (c, d)), some (.bl false), o5, o6]
      | 1 => δ = [some (pr r), some (.int m), some (pr (a + stU r.1 r.2 m a b c d * c, b + stU r.1 r.2 m a b c d * d)), some (pr (c, d)), some (.bl (decide (0 < stU r.1 r.2 m a b c d))), o5, o6]
      | _ => ∃ a' b' c' d' g, δ = [some (pr r), some (.int m), some (pr (a', b')), some (pr (c', d')), some (.bl g), o5, o6] ∧ Nb r.1 r.2 m a' b' c' d' ∧ (g = false → NbF r.1 r.2 m a' b' c' d') ∧ (g = true → a + b + c + d + 1 ≤ a' + b' + c' + d') ∧ (g = false → a + b + c + d ≤ a' + b' + c' + d'), ⟨⟨l, rfl⟩, _, _, rfl⟩, ?_, ?_⟩
    · rintro j x δ S' hj ⟨⟨l, rfl⟩, o5, o6, hδ⟩
      match j, hj, hδ with
      | 0, hj, hδ =>
        cases hj
        subst hδ
        refine ⟨trivial, _, rfl, ?_⟩
        rw [x_seq, x_asg1]
        simp only [xe_call, xa_cons, xa_nil, xe_var, List.getElem?_cons_succ, List.getElem?_cons_zero, List.set_cons_succ, List.set_cons_zero, List.length_cons, List.length_nil, List.map_cons, List.map_nil, List.cons_append, List.nil_append, List.replicate, Nat.reduceAdd, Nat.zero_add, true_and]
        refine (steps_up_sat (p := r.1) (q := r.2) nb hp2 hq2 m2 fun l2 => ?_).x
        obtain ⟨⟨z1, z2⟩, ⟨z3, z4⟩, ⟨z5, z6⟩, z7⟩ := nb.sz hp2 hq2 m2
        have am := nu.am
        have bm := nu.bm
        have a0 := nu.a0
        have k9 : stU r.1 r.2 m a b c d * c ≤ m := by have := nb.a0; omega
        have kz : (stU r.1 r.2 m a b c d).natAbs < 2 ^ 64 := by
          have := Int.mul_le_mul_of_nonneg_left nb.c1 u0
          omega
        rw [List.append_assoc]
        generalize stU r.1 r.2 m a b c d = kk at *
        rw [x_seq, x_if]
        simp only [xt_val, xe_op2, xe_var, xe_c, so_gt, boolOf_bl, List.getElem?_cons_succ, List.getElem?_cons_zero, List.set_cons_succ, List.set_cons_zero, List.length_cons, List.length_nil, List.map_cons, List.map_nil, List.cons_append, List.nil_append, List.replicate, Nat.reduceAdd, Nat.zero_add, true_and]
        by_cases hk : 0 < kk
        · simp only [hk, decide_true, if_true]
          rw [x_seq, x_asg1]
          simp only [xe_c, List.getElem?_cons_succ, List.getElem?_cons_zero, List.set_cons_succ, List.set_cons_zero, List.length_cons, List.length_nil, List.map_cons, List.map_nil, List.cons_append, List.nil_append, List.replicate, Nat.reduceAdd, Nat.zero_add, true_and]
          rw [x_seq, x_if]
          simp only [xt_tru, xe_var, tru_bl, if_true, List.getElem?_cons_succ, List.getElem?_cons_zero, List.set_cons_succ, List.set_cons_zero, List.length_cons, List.length_nil, List.map_cons, List.map_nil, List.cons_append, List.nil_append, List.replicate, Nat.reduceAdd, Nat.zero_add, true_and]
          rw [x_seq, x_asg1]
          simp only [xe_tup2, xe_op2, xe_var, xe_c, so_ix0, so_ix1, so_mul, so_add, List.getElem?_cons_succ, List.getElem?_cons_zero, List.set_cons_succ, List.set_cons_zero, List.length_cons, List.length_nil, List.map_cons, List.map_nil, List.cons_append, List.nil_append, List.replicate, Nat.reduceAdd, Nat.zero_add, true_and]
          refine ⟨mulOk64 kz (by omega), mulOk64 kz (by omega), ?_⟩
          simp only [x_nil]
          exact ⟨⟨_, rfl⟩, _, _, rfl⟩
        · have : kk = 0 := by omega
          subst this
          simp only [hk, decide_false, Bool.false_eq_true, if_false, x_nil]
          refine ⟨⟨_, rfl⟩, some (.bl true), some (.int 0), ?_⟩
          simp only [Int.zero_mul, Int.add_zero]
      | 1, hj, hδ =>
        cases hj
        subst hδ
        refine ⟨trivial, _, rfl, ?_⟩
        rw [x_seq, x_asg1]
        simp only [xe_call, xa_cons, xa_nil, xe_var, List.getElem?_cons_succ, List.getElem?_cons_zero, List.set_cons_succ, List.set_cons_zero, List.length_cons, List.length_nil, List.map_cons, List.map_nil, List.cons_append, List.nil_append, List.replicate, Nat.reduceAdd, Nat.zero_add, true_and]
        have hu : stU r.1 r.2 m a b c d = 0 → stD r.1 r.2 m a b c d = 0 → NbF r.1 r.2 m a b c d := fun h1 h2 => done_ok nb h1 h2
        have nn1 := Int.mul_nonneg u0 nb.c0
        have nn2 := Int.mul_nonneg u0 nb.d0
        have nc1 : 0 < stU r.1 r.2 m a b c d → 1 ≤ stU r.1 r.2 m a b c d * c := fun h => Int.mul_pos h (by have := nb.c1; omega)
        generalize stU r.1 r.2 m a b c d = ku at *
        refine (steps_down_sat (p := r.1) (q := r.2) nu hp2 hq2 m2 fun l2 => ?_).x
        obtain ⟨⟨z1, z2⟩, ⟨z3, z4⟩, ⟨z5, z6⟩, z7⟩ := nu.sz hp2 hq2 m2
        have hd : ku = 0 → stD r.1 r.2 m (a + ku * c) (b + ku * d) c d = stD r.1 r.2 m a b c d := fun h => by
          subst h
          simp only [Int.zero_mul, Int.add_zero]
        have nb' := nu.b1
        have ap := nu.a0
        generalize hA : a + ku * c = A at *
        generalize hB : b + ku * d = B at *
        have cm := nv.cm
        have dm := nv.dm
        have d0 := nb.d0
        have k9 : stD r.1 r.2 m A B c d * B ≤ m := by omega
        have kz : (stD r.1 r.2 m A B c d).natAbs < 2 ^ 64 := by
          have := Int.mul_le_mul_of_nonneg_left nb' v0
          omega
        have nn3 := Int.mul_nonneg v0 ap
        have nn4 : 0 < stD r.1 r.2 m A B c d → 1 ≤ stD r.1 r.2 m A B c d * B := fun h => Int.mul_pos h (by omega)
        rw [List.append_assoc]
        generalize stD r.1 r.2 m A B c d = kd at *
        rw [x_seq, x_if]
        simp only [xt_val, xe_op2, xe_var, xe_c, so_gt, boolOf_bl, List.getElem?_cons_succ, List.getElem?_cons_zero, List.set_cons_succ, List.set_cons_zero, List.length_cons, List.length_nil, List.map_cons, List.map_nil, List.cons_append, List.nil_append, List.replicate, Nat.reduceAdd, Nat.zero_add, true_and]
        by_cases hk : 0 < kd
        · simp only [hk, decide_true, if_true]
          rw [x_seq, x_asg1]
          simp only [xe_c, List.getElem?_cons_succ, List.getElem?_cons_zero, List.set_cons_succ, List.set_cons_zero, List.length_cons, List.length_nil, List.map_cons, List.map_nil, List.cons_append, List.nil_append, List.replicate, Nat.reduceAdd, Nat.zero_add, true_and]
          rw [x_seq, x_if]
          simp only [xt_tru, xe_var, tru_bl, Bool.false_eq_true, if_false, List.getElem?_cons_succ, List.getElem?_cons_zero, List.set_cons_succ, List.set_cons_zero, List.length_cons, List.length_nil, List.map_cons, List.map_nil, List.cons_append, List.nil_append, List.replicate, Nat.reduceAdd, Nat.zero_add, true_and]
          rw [x_seq, x_asg1]
          simp only [xe_tup2, xe_op2, xe_var, xe_c, so_ix0, so_ix1, so_mul, so_add, List.getElem?_cons_succ, List.getElem?_cons_zero, List.set_cons_succ, List.set_cons_zero, List.length_cons, List.length_nil, List.map_cons, List.map_nil, List.cons_append, List.nil_append, List.replicate, Nat.reduceAdd, Nat.zero_add, true_and]
          refine ⟨mulOk64 kz (by omega), mulOk64 kz (by omega), ?_⟩
          simp only [x_nil]
          have := nn4 hk
          exact ⟨⟨_, rfl⟩, _, _, A, B, c + kd * A, d + kd * B, true, rfl, nv, fun h => (by cases h), fun _ => (by omega), fun h => (by cases h)⟩
        · have e0 : kd = 0 := by omega
          subst e0
          simp only [hk, decide_false, Bool.false_eq_true, if_false, x_nil]
          refine ⟨⟨_, rfl⟩, _, _, A, B, c, d, decide (0 < ku), rfl, nu, fun h => ?_, fun h => ?_, fun h => ?_⟩
          · have h0 : ku = 0 := by have := of_decide_eq_false h; omega
            have := hu h0 (hd h0).symm
            subst h0
            simp only [Int.zero_mul, Int.add_zero] at hA hB
            subst hA hB
            exact this
          · have := nc1 (of_decide_eq_true h)
            omega
          · omega
      | j + 2, hj, hδ => cases hj
    · rintro δ S' ⟨⟨l, rfl⟩, o5, o6, a', b', c', d', g, rfl, nb', hf', hg1, hg2⟩
      refine ⟨trivial, ?_⟩
      rw [x_nil]
      have w1 := nb'.am; have w2 := nb'.bm; have w3 := nb'.cm; have w4 := nb'.dm
      refine ⟨msr m a' b' c' d' g, ?_, a', b', c', d', g, _, _, nb', hf', Nat.le_refl _, ⟨l, rfl⟩, rfl⟩
      refine Nat.lt_of_lt_of_le ?_ hμ
      unfold msr
      cases g with
      | true =>
        have := hg1 rfl
        simp only [if_true]
        omega
      | false =>
        have := hg2 rfl
        simp only [if_true, Bool.false_eq_true, if_false]
        omega
end
end K27
set_option Elab.async false
set_option linter.all false
set_option maxRecDepth 100000
set_option maxHeartbeats 2000000
namespace K27
open PySem L2 DL
section
variable {C : CA} {S : SS} {P : D → SS → Prop} {X : XQ}
abbrev OP := Option (Int × Int)
def oD : OP → D
  | none => .non
  | some p => pr p
abbrev tD (t : OP × OP) : D := .tup [oD t.1, oD t.2]
/-- what around tells -/
def Arnd (r : Int × Int) (m : Int) (t : OP × OP) : Prop :=
  (max r.1 r.2 ≤ m ∧ t = (some r, some r)) ∨ (m < max r.1 r.2 ∧ ∃ a b c d, NbF r.1 r.2 m a b c d ∧ t = (if a = 0 then none else some (a, b), if d = 0 then none else some (c, d)))
theorem Arnd.uniq {r : Int × Int} {m : Int} {t t' : OP × OP} (h : Arnd r m t) (h' : Arnd r m t') : t = t' := by
  rcases h with ⟨h1, rfl⟩ | ⟨h1, a, b, c, d, hn, rfl⟩
  · rcases h' with ⟨_, rfl⟩ | ⟨h2, _⟩
    · rfl
    · omega
  · rcases h' with ⟨h2, _⟩ | ⟨_, a', b', c', d', hn', rfl⟩
    · omega
    · obtain ⟨⟨rfl, rfl⟩, rfl, rfl⟩ := hn.uniq hn'
      rfl
theorem around_any {r : Int × Int} {m : Int} (h : Rt r) (m1 : 1 ≤ m) (m2 : m ≤ 1000000) (k : ∀ t l, Arnd r m t → P (tD t) (S ++ l)) {l0 : SS} {δ0 : Sl} :
    XR (sSeq (sIf (tVal (eOp2 (cmpD .LtE) (eCB maxD (aCons (eVar 0) aNil)) (eVar 1))) (sSeq (sRet (eTup (aCons (eVar 0) (aCons (eVar 0) aNil)))) sNil) sNil) (sSeq (sAsg (eCall (F_neighbours C) 2 (aCons (eVar 0) (aCons (eVar 1) aNil))) (.many [2, 3])) (sSeq (sRet (eTup (aCons (eIf (tVal (eOp2 (cmpD .Eq) (eOp2 ixD (eVar 2) (eC (.int 0))) (eC (.int 0)))) (eC .non) (eVar 2)) (aCons (eIf (tVal (eOp2 (cmpD .Eq) (eOp2 ixD (eVar 3) (eC (.int 1))) (eC (.int 0)))) (eC .non) (eVar 3)) aNil)))) sNil)) [some (pr r), some (.int m), none, none] (S ++ l0)) (fun _ S' => P .non S') P (fun _ => X) := by
  rw [x_seq, x_if]
  simp only [xt_val, xe_op2, xe_cb, xa_cons, xa_nil, xe_var, so_maxT2, so_le, boolOf_bl, List.getElem?_cons_succ, List.getElem?_cons_zero, List.set_cons_succ, List.set_cons_zero, List.length_cons, List.length_nil, List.map_cons, List.map_nil, List.cons_append, List.nil_append, List.replicate, Nat.reduceAdd, Nat.zero_add, true_and]
  by_cases hb : max r.1 r.2 ≤ m
  · simp only [hb, decide_true, if_true]
    rw [x_seq, x_ret]
    simp only [xe_tup2, xe_var, List.getElem?_cons_succ, List.getElem?_cons_zero, List.set_cons_succ, List.set_cons_zero, List.length_cons, List.length_nil, List.map_cons, List.map_nil, List.cons_append, List.nil_append, List.replicate, Nat.reduceAdd, Nat.zero_add, true_and]
    exact k (some r, some r) _ (.inl ⟨hb, rfl⟩)
  · simp only [hb, decide_false, Bool.false_eq_true, if_false, x_nil]
    rw [x_seq, x_asgN]
    simp only [xe_call, xa_cons, xa_nil, xe_var, List.getElem?_cons_succ, List.getElem?_cons_zero, List.set_cons_succ, List.set_cons_zero, List.length_cons, List.length_nil, List.map_cons, List.map_nil, List.cons_append, List.nil_append, List.replicate, Nat.reduceAdd, Nat.zero_add, true_and]
    refine (neighbours_sat h m1 m2 (by omega) fun a b c d l hn => ?_).x
    simp only [bind_many2, List.getElem?_cons_succ, List.getElem?_cons_zero, List.set_cons_succ, List.set_cons_zero, List.length_cons, List.length_nil, List.map_cons, List.map_nil, List.cons_append, List.nil_append, List.replicate, Nat.reduceAdd, Nat.zero_add, true_and]
    rw [x_seq, x_ret]
    simp only [xe_tup2, xe_if, xt_val, xe_op2, xe_var, xe_c, so_ix0, so_ix1, eq_int, boolOf_bl, List.getElem?_cons_succ, List.getElem?_cons_zero, List.set_cons_succ, List.set_cons_zero, List.length_cons, List.length_nil, List.map_cons, List.map_nil, List.cons_append, List.nil_append, List.replicate, Nat.reduceAdd, Nat.zero_add, true_and]
    have kk := k (if a = 0 then none else some (a, b), if d = 0 then none else some (c, d)) (l0 ++ l) (.inr ⟨by omega, a, b, c, d, hn, rfl⟩)
    rw [List.append_assoc]
    have fin : ∀ x y, x = oD (if a = 0 then none else some (a, b)) → y = oD (if d = 0 then none else some (c, d)) → P (.tup [x, y]) (S ++ (l0 ++ l)) := fun x y hx hy => by
      subst hx hy
      exact kk
    by_cases ha : a = 0
    · have e : (a == 0) = true := by simp [ha]
      rw [e]
      simp only [if_true]
      by_cases hd : d = 0
      · have e : (d == 0) = true := by simp [hd]
        rw [e]
        exact fin _ _ (by rw [if_pos ha]; rfl) (by rw [if_pos hd]; rfl)
      · have e : (d == 0) = false := by simp [hd]
        rw [e]
        exact fin _ _ (by rw [if_pos ha]; rfl) (by rw [if_neg hd]; rfl)
    · have e : (a == 0) = false := by simp [ha]
      rw [e]
      simp only [Bool.false_eq_true, if_false]
      by_cases hd : d = 0
      · have e : (d == 0) = true := by simp [hd]
        rw [e]
        exact fin _ _ (by rw [if_neg ha]; rfl) (by rw [if_pos hd]; rfl)
      · have e : (d == 0) = false := by simp [hd]
        rw [e]
        exact fin _ _ (by rw [if_neg ha]; rfl) (by rw [if_neg hd]; rfl)
section
variable {d e : D} (hd : aP d = true) (he : aP e = true) (xr : rtB d = false → ∀ l, AE C X "ratio" (S ++ l)) (xm : rtB d = true → isR e 1 1000000 = false → ∀ l, AE C X "most" (S ++ l))
include hd he xr xm
theorem around_x (k : ∀ r m, d = pr r → Rt r → e = .int m → 1 ≤ m → m ≤ 1000000 → ∀ t l, Arnd r m t → P (tD t) (S ++ l)) : XSat (F_around C [d, e] S) P X := by
  rw [sem_around]
  refine x_fn ?_
  unfold B_around
  simp only [x_seq, x_drop, xe_call, xa_cons, xa_nil, xe_var, startD, List.getElem?_cons_succ, List.getElem?_cons_zero, List.set_cons_succ, List.set_cons_zero, List.length_cons, List.length_nil, List.map_cons, List.map_nil, List.cons_append, List.nil_append, List.replicate, Nat.reduceAdd, Nat.zero_add, true_and]
  refine demand_ratio_x hd xr fun h1 l => ?_
  refine demand_most_x he (fun h => xm h1 h l) fun h2 => ?_
  obtain ⟨r, rfl, hr⟩ := rt_of h1
  obtain ⟨m, rfl, m1, m2⟩ := isR_int h2
  have := around_any (C := C) (X := X) (P := P) (S := S) (l0 := l) (δ0 := []) hr m1 m2 fun t l ht => k r m rfl hr rfl m1 m2 t l ht
  simp only [x_seq] at this
  exact this
end
/-- what it tells -/
theorem around_ex (C : CA) {r : Int × Int} {m : Int} (h : Rt r) (m1 : 1 ≤ m) (m2 : m ≤ 1000000) : ∃ t, Arnd r m t := by
  have : XSat (F_around C [pr r, .int m] []) (fun _ _ => ∃ t, Arnd r m t) noX := around_x rfl rfl (fun z => by rw [rtB_pr.mpr h] at z; cases z) (fun _ z => by rw [isR_of m1 m2] at z; cases z) fun r' m' e1 _ e2 _ _ t _ ht => by
    obtain ⟨a, b⟩ := DL.pr_inj e1
    injection e2 with e2
    have : r' = r := Prod.ext a.symm b.symm
    subst this e2
    exact ⟨t, ht⟩
  obtain ⟨x, S', _, ht⟩ := sat_ex this.s
  exact ht
end
end K27
set_option Elab.async false
set_option linter.all false
set_option maxRecDepth 100000
set_option maxHeartbeats 2000000
namespace K27
open PySem L2 DL
section
variable {C : CA} {S : SS} {P : D → SS → Prop} {X : XQ}
/-! the nearer one -/
def nearD (r : Int × Int) : OP × OP → D
  | (some l, some h) => pr (if blw (minusP h r) (minusP r l) = true then h else l)
  | (none, h) => oD h
  | (l, none) => oD l
structure TS (t : OP × OP) : Prop where
  a : ∀ p, t.1 = some p → Sm 31 p
  b : ∀ p, t.2 = some p → Sm 31 p
theorem Arnd.sm {r : Int × Int} {m : Int} {t : OP × OP} (hr : Rt r) (m2 : m ≤ 1000000) (h : Arnd r m t) : TS t := by
  rcases h with ⟨_, rfl⟩ | ⟨_, a, b, c, d, hn, rfl⟩
  · exact ⟨fun p e => by cases e; exact hr.sm, fun p e => by cases e; exact hr.sm⟩
  · have := hn.n.a0; have := hn.n.b1; have := hn.n.c1; have := hn.n.d0; have := hn.n.am; have := hn.n.bm; have := hn.n.cm; have := hn.n.dm
    refine ⟨fun p e => ?_, fun p e => ?_⟩
    · have e : (if a = 0 then none else some (a, b)) = some p := e
      split at e
      · cases e
      · cases e
        exact ⟨by show a.natAbs < _; omega, by show b.natAbs < _; omega, by show 0 < b; omega⟩
    · have e : (if d = 0 then none else some (c, d)) = some p := e
      split at e
      · cases e
      · cases e
        exact ⟨by show c.natAbs < _; omega, by show d.natAbs < _; omega, by show 0 < d; omega⟩
theorem nearest_x {d e : D} (hd : aP d = true) (he : aP e = true) (xr : rtB d = false → ∀ l, AE C X "ratio" (S ++ l)) (xm : rtB d = true → isR e 1 1000000 = false → ∀ l, AE C X "most" (S ++ l))
    (k : ∀ r m, d = pr r → Rt r → e = .int m → 1 ≤ m → m ≤ 1000000 → ∀ t l, Arnd r m t → P (nearD r t) (S ++ l)) : XSat (F_nearest C [d, e] S) P X := by
  rw [sem_nearest]
  refine x_fn ?_
  unfold B_nearest
  rw [x_seq, x_asgN]
  simp only [xe_call, xa_cons, xa_nil, xe_var, startD, List.getElem?_cons_succ, List.getElem?_cons_zero, List.set_cons_succ, List.set_cons_zero, List.length_cons, List.length_nil, List.map_cons, List.map_nil, List.cons_append, List.nil_append, List.replicate, Nat.reduceAdd, Nat.zero_add, true_and]
  refine around_x hd he xr xm fun r m e1 hr e2 m1 m2 t l ha => ?_
  subst e1 e2
  have kk := k r m rfl hr rfl m1 m2 t l ha
  have ts := ha.sm hr m2
  have sr := hr.sm
  obtain ⟨tl, th⟩ := t
  simp only [bind_many2, List.getElem?_cons_succ, List.getElem?_cons_zero, List.set_cons_succ, List.set_cons_zero, List.length_cons, List.length_nil, List.map_cons, List.map_nil, List.cons_append, List.nil_append, List.replicate, Nat.reduceAdd, Nat.zero_add, true_and]
  rw [x_seq, x_if]
  simp only [xt_or, xt_val, xe_op2, xe_var, xe_c, so_is_non, boolOf_bl, List.getElem?_cons_succ, List.getElem?_cons_zero, List.set_cons_succ, List.set_cons_zero, List.length_cons, List.length_nil, List.map_cons, List.map_nil, List.cons_append, List.nil_append, List.replicate, Nat.reduceAdd, Nat.zero_add, true_and]
  cases tl with
  | none =>
    have e1 : isNon (oD none) = true := rfl
    rw [e1]
    simp only [if_true]
    rw [x_seq, x_ret]
    simp only [xe_if, xt_val, xe_op2, xe_var, xe_c, so_is_non, boolOf_bl, e1, if_true, List.getElem?_cons_succ, List.getElem?_cons_zero, List.set_cons_succ, List.set_cons_zero, List.length_cons, List.length_nil, List.map_cons, List.map_nil, List.cons_append, List.nil_append, List.replicate, Nat.reduceAdd, Nat.zero_add, true_and]
    exact kk
  | some lo =>
    have e1 : isNon (oD (some lo)) = false := rfl
    rw [e1]
    simp only [Bool.false_eq_true, if_false]
    cases th with
    | none =>
      have e2 : isNon (oD none) = true := rfl
      rw [e2]
      simp only [if_true]
      rw [x_seq, x_ret]
      simp only [xe_if, xt_val, xe_op2, xe_var, xe_c, so_is_non, boolOf_bl, e1, Bool.false_eq_true, if_false, List.getElem?_cons_succ, List.getElem?_cons_zero, List.set_cons_succ, List.set_cons_zero, List.length_cons, List.length_nil, List.map_cons, List.map_nil, List.cons_append, List.nil_append, List.replicate, Nat.reduceAdd, Nat.zero_add, true_and]
      exact kk
    | some hi =>
      have e2 : isNon (oD (some hi)) = false := rfl
      rw [e2]
      have sl := ts.a lo rfl
      have sh := ts.b hi rfl
      simp only [Bool.false_eq_true, if_false, x_nil]
      rw [x_seq, x_par]
      simp only [xe_call, xa_cons, xa_nil, xe_var, List.getElem?_cons_succ, List.getElem?_cons_zero, List.set_cons_succ, List.set_cons_zero, List.length_cons, List.length_nil, List.map_cons, List.map_nil, List.cons_append, List.nil_append, List.replicate, Nat.reduceAdd, Nat.zero_add, true_and]
      refine (minus_sat (a := r) (b := lo) (sr.up (by decide)) (sl.up (by decide)) ?_).x
      refine (minus_sat (a := hi) (b := r) (sh.up (by decide)) (sr.up (by decide)) ?_).x
      have s1 := minus_sm sr sl
      have s2 := minus_sm sh sr
      have kk : P (pr (if blw (minusP hi r) (minusP r lo) = true then hi else lo)) (S ++ l) := kk
      rw [x_seq, x_ret]
      simp only [xe_if, xt_tru, xe_call, xa_cons, xa_nil, xe_var, List.getElem?_cons_succ, List.getElem?_cons_zero, List.set_cons_succ, List.set_cons_zero, List.length_cons, List.length_nil, List.map_cons, List.map_nil, List.cons_append, List.nil_append, List.replicate, Nat.reduceAdd, Nat.zero_add, true_and]
      refine (is_below_sat (a := minusP hi r) (b := minusP r lo) (s2.up (by decide)) (s1.up (by decide)) ?_).x
      simp only [tru_bl]
      split
      · rename_i h
        rw [if_pos h] at kk
        exact kk
      · rename_i h
        rw [if_neg h] at kk
        exact kk
theorem plus_min {a b : Int × Int} : plusP a (-b.1, b.2) = minusP a b := by
  unfold plusP minusP
  congr 1
  show a.1 * b.2 + -b.1 * a.2 = a.1 * b.2 - b.1 * a.2
  rw [Int.neg_mul]
  omega
/-! terms and stages -/
theorem absI (i : Int) : (if i < 0 then -i else i) = (i.natAbs : Int) := by split <;> omega
theorem gcd_nat {p : Int × Int} (h : Rt p) : Nat.gcd p.1.toNat p.2.toNat = 1 := by
  have c := h.co
  have a1 := h.a1
  have b1 := h.b1
  rw [← c]
  show Nat.gcd _ _ = Nat.gcd p.1.natAbs p.2.natAbs
  congr 1
  · omega
  · omega
/-- the terms of a ratio -/
abbrev tr (p : Int × Int) : List Int := tI p.1.toNat p.2.toNat
theorem tr_row {p : Int × Int} (h : Rt p) : Row (tr p) := by
  have a1 := h.a1; have a2 := h.a2; have b1 := h.b1; have b2 := h.b2
  exact row_tI (by omega) (by omega) (by omega)
theorem tr_mp {p : Int × Int} (h : Rt p) : (mp (tr p)).1 = p := by
  have a1 := h.a1; have b1 := h.b1
  rw [mp_ratio (gcd_nat h)]
  exact Prod.ext (by show ((p.1.toNat : Nat) : Int) = p.1; omega) (by show ((p.2.toNat : Nat) : Int) = p.2; omega)
theorem tI_pos {x y : Nat} (h : 0 < y) : tI x y = ((x / y : Nat) : Int) :: tI y (x % y) := by
  unfold tI
  rw [tms_pos h]
  rfl
theorem tI_zero {x : Nat} : tI x 0 = [] := by
  unfold tI
  rw [tms_zero]
  rfl
abbrev dI (l : List Int) : List D := l.map .int
theorem small_nat {x : Nat} (h : x ≤ 1000000000) : ((x : Nat) : Int).natAbs < 2 ^ 31 := by omega
/-- what the loops do: the terms one by one -/
theorem terms_loop {t : PTs'} {b : PSt} {Pn : Sl → SS → Prop} {Pr : D → SS → Prop} {Y : Sl → XQ} {m : Nat} (f : Int → Int → Option D → Sl) (hm : 1000000000 ≤ m) (o u : Nat) (ho : o ≤ 1000000000) (hu : u ≤ 1000000000) (o5 : Option D) (hl : (tI o u).length ≤ 64)
    (ht : ∀ (x y : Nat) (o5 : Option D) (S' : SS) (Pb : Bool → SS → Prop), Pb (decide (0 < y)) S' → XSat (t (f x y o5) S') Pb (Y (f x y o5)))
    (hb : ∀ (x y : Nat) (o5 : Option D) (acc : List Int) (Q : Sl → SS → Prop), x ≤ 1000000000 → 0 < y → y ≤ 1000000000 → acc.length ≤ 64 → (∀ o5, Q (f y (x % y : Nat) o5) (S ++ [.lst (dI (acc ++ [((x / y : Nat) : Int)]))])) → XR (b (f x y o5) (S ++ [.lst (dI acc)])) Q Pr Y)
    (k : ∀ x o5, Pn (f x 0 o5) (S ++ [.lst (dI (tI o u))])) : XR (sWhile t b (f o u o5) (S ++ [.lst []])) Pn Pr Y := by
  refine x_while (fun m δ S' => ∃ (x : Nat) (o5 : Option D) (acc : List Int), x ≤ 1000000000 ∧ m ≤ 1000000000 ∧ δ = f x m o5 ∧ S' = S ++ [.lst (dI acc)] ∧ acc ++ tI x m = tI o u) (fun m δ S' hI => ?_) u _ _ ⟨o, o5, [], ho, hu, rfl, rfl, rfl⟩
  obtain ⟨x, o5, acc, h1, h2, rfl, rfl, h5⟩ := hI
  refine ht x m o5 _ _ ?_
  by_cases hm0 : 0 < m
  · rw [decide_eq_true hm0]
    simp only [if_true]
    have hal : acc.length ≤ 64 := by
      have := congrArg List.length h5
      rw [List.length_append] at this
      omega
    refine hb x m o5 acc _ h1 hm0 h2 hal fun o6 => ⟨x % m, Nat.mod_lt _ hm0, m, o6, acc ++ [((x / m : Nat) : Int)], h2, ?_, rfl, rfl, ?_⟩
    · have := Nat.mod_lt x hm0
      omega
    · rw [← h5, tI_pos hm0]
      simp
  · have : m = 0 := by omega
    subst this
    rw [tI_zero, List.append_nil] at h5
    rw [h5]
    simp only [Nat.lt_irrefl, decide_false, Bool.false_eq_true, if_false]
    exact k x o5
theorem terms_sat {p : Int × Int} (h : Rt p) (k : ∀ l, P (.tup (dI (tr p))) (S ++ l)) : Sat (F_terms C [pr p] S) P := by
  have a1 := h.a1; have a2 := h.a2; have b1 := h.b1; have b2 := h.b2
  have hlen := (tr_row h).len
  rw [sem_terms]
  refine XSat.s (x_fn ?_)
  unfold B_terms
  try simp only [x_seq, x_nil, x_drop, x_ret, x_retN, x_if, x_asg1, x_par, x_raise, xe_var, xe_c, xe_op1, xe_op2, xe_if, xa_nil, xa_cons, xe_call, xe_cb, xe_and, xe_or, xe_chain, xt_tru, xt_val, xt_not, xt_and, xt_or, xt_if, xt_yes, xit_val, xit_on, startD, xe_tup0, xe_tup1, xe_tup2, xe_tup3, xe_tup4, xe_tup5, xe_tup6, xe_lst0, xe_lst1, xe_lst2, xe_lst3, xe_lst4, xe_lst5, xe_lst6, xe_lst7, xe_lst8, xe_lst9, xe_lst10, xe_lst11, xe_lst12, xe_lst13, xe_lst14, xe_lst15, xe_lst16, so_add, so_sub, so_mul, so_fdiv, so_mod, so_lt, so_le, so_gt, so_ge, so_neg, so_notb, so_int, so_lenT, eq_int, ne_int, tru_int, tru_bl, tru_tup, tru_non, boolOf_bl, so_ix0, so_ix1, so_ix2, eq_str, ne_str, List.getElem?_cons_succ, List.getElem?_cons_zero, List.set_cons_succ, List.set_cons_zero, List.length_cons, List.length_nil, List.map_cons, List.map_nil, List.cons_append, List.nil_append, List.replicate, Nat.reduceAdd, Nat.zero_add, true_and]
  refine demand_ratio_x rfl (fun z => absurd z (by rw [rtB_pr.mpr h]; decide)) fun _ l => ?_
  rw [x_asg2]
  try simp only [x_seq, x_nil, x_drop, x_ret, x_retN, x_if, x_asg1, x_par, x_raise, xe_var, xe_c, xe_op1, xe_op2, xe_if, xa_nil, xa_cons, xe_call, xe_cb, xe_and, xe_or, xe_chain, xt_tru, xt_val, xt_not, xt_and, xt_or, xt_if, xt_yes, xit_val, xit_on, startD, xe_tup0, xe_tup1, xe_tup2, xe_tup3, xe_tup4, xe_tup5, xe_tup6, xe_lst0, xe_lst1, xe_lst2, xe_lst3, xe_lst4, xe_lst5, xe_lst6, xe_lst7, xe_lst8, xe_lst9, xe_lst10, xe_lst11, xe_lst12, xe_lst13, xe_lst14, xe_lst15, xe_lst16, so_add, so_sub, so_mul, so_fdiv, so_mod, so_lt, so_le, so_gt, so_ge, so_neg, so_notb, so_int, so_lenT, eq_int, ne_int, tru_int, tru_bl, tru_tup, tru_non, boolOf_bl, so_ix0, so_ix1, so_ix2, eq_str, ne_str, List.getElem?_cons_succ, List.getElem?_cons_zero, List.set_cons_succ, List.set_cons_zero, List.length_cons, List.length_nil, List.map_cons, List.map_nil, List.cons_append, List.nil_append, List.replicate, Nat.reduceAdd, Nat.zero_add, true_and]
  have e1 : p.1 = ((p.1.toNat : Nat) : Int) := by omega
  have e2 : p.2 = ((p.2.toNat : Nat) : Int) := by omega
  have goal := terms_loop (S := S ++ l) (Pr := P) (Y := fun _ => noX) (Pn := fun δ S' => XR (sSeq (sRet (eCB (one tupleD) (aCons (eVar 1) aNil))) sNil δ S') (fun _ S' => P .non S') P fun _ => noX) (t := tVal (eOp2 (cmpD .Gt) (eVar 3) (eC (.int 0)))) (b := sSeq (sDrop (eMt miApp (eVar 1) (aCons (eOp2 (binD .FloorDiv) (eVar 2) (eVar 3)) aNil))) (sSeq (sPar 2 3 (eVar 3) (eOp2 (binD .Mod) (eVar 2) (eVar 3))) sNil))
    (fun x y _ => [some (.tup [.int p.1, .int p.2]), some (.ref (S ++ l).length), some (.int x), some (.int y)]) (Nat.le_refl _) p.1.toNat p.2.toNat (by omega) (by omega) none (by omega) ?_ ?_ ?_
  · rw [← e1, ← e2] at goal
    simp only [x_seq, x_nil, x_drop, x_ret, x_retN, x_if, x_asg1, x_par, x_raise, xe_var, xe_c, xe_op1, xe_op2, xe_if, xa_nil, xa_cons, xe_call, xe_cb, xe_and, xe_or, xe_chain, xt_tru, xt_val, xt_not, xt_and, xt_or, xt_if, xt_yes, xit_val, xit_on, startD, xe_tup0, xe_tup1, xe_tup2, xe_tup3, xe_tup4, xe_tup5, xe_tup6, xe_lst0, xe_lst1, xe_lst2, xe_lst3, xe_lst4, xe_lst5, xe_lst6, xe_lst7, xe_lst8, xe_lst9, xe_lst10, xe_lst11, xe_lst12, xe_lst13, xe_lst14, xe_lst15, xe_lst16, so_add, so_sub, so_mul, so_fdiv, so_mod, so_lt, so_le, so_gt, so_ge, so_neg, so_notb, so_int, so_lenT, eq_int, ne_int, tru_int, tru_bl, tru_tup, tru_non, boolOf_bl, so_ix0, so_ix1, so_ix2, eq_str, ne_str, List.getElem?_cons_succ, List.getElem?_cons_zero, List.set_cons_succ, List.set_cons_zero, List.length_cons, List.length_nil, List.map_cons, List.map_nil, List.cons_append, List.nil_append, List.replicate, Nat.reduceAdd, Nat.zero_add, true_and] at goal
    exact goal
  · intro x y o5 S' Pb hk
    try simp only [x_seq, x_nil, x_drop, x_ret, x_retN, x_if, x_asg1, x_par, x_raise, xe_var, xe_c, xe_op1, xe_op2, xe_if, xa_nil, xa_cons, xe_call, xe_cb, xe_and, xe_or, xe_chain, xt_tru, xt_val, xt_not, xt_and, xt_or, xt_if, xt_yes, xit_val, xit_on, startD, xe_tup0, xe_tup1, xe_tup2, xe_tup3, xe_tup4, xe_tup5, xe_tup6, xe_lst0, xe_lst1, xe_lst2, xe_lst3, xe_lst4, xe_lst5, xe_lst6, xe_lst7, xe_lst8, xe_lst9, xe_lst10, xe_lst11, xe_lst12, xe_lst13, xe_lst14, xe_lst15, xe_lst16, so_add, so_sub, so_mul, so_fdiv, so_mod, so_lt, so_le, so_gt, so_ge, so_neg, so_notb, so_int, so_lenT, eq_int, ne_int, tru_int, tru_bl, tru_tup, tru_non, boolOf_bl, so_ix0, so_ix1, so_ix2, eq_str, ne_str, List.getElem?_cons_succ, List.getElem?_cons_zero, List.set_cons_succ, List.set_cons_zero, List.length_cons, List.length_nil, List.map_cons, List.map_nil, List.cons_append, List.nil_append, List.replicate, Nat.reduceAdd, Nat.zero_add, true_and]
    have : decide ((0 : Int) < (y : Int)) = decide (0 < y) := by rw [decide_eq_decide]; omega
    rw [this]
    exact hk
  · intro x y o5 acc Q hx hy0 hy hal hk
    simp only [x_seq, x_drop, xe_mt, xe_var, xa_cons, xa_nil, xe_op2, List.getElem?_cons_succ, List.getElem?_cons_zero, List.set_cons_succ, List.set_cons_zero, List.length_cons, List.length_nil, List.map_cons, List.map_nil, List.cons_append, List.nil_append, List.replicate, Nat.reduceAdd, Nat.zero_add, true_and]
    refine ⟨isTy_lst (ds := dI acc) (by simp), ?_⟩
    simp only [so_fdiv]
    refine ⟨divOk64 (by omega) (by omega), ?_⟩
    rw [fdiv_pos (by omega), miApp_g, app_lst (ds := dI acc) (by simp) (by rw [List.length_map]; exact lt_size (by omega)), set_last]
    try simp only [x_seq, x_nil, x_drop, x_ret, x_retN, x_if, x_asg1, x_par, x_raise, xe_var, xe_c, xe_op1, xe_op2, xe_if, xa_nil, xa_cons, xe_call, xe_cb, xe_and, xe_or, xe_chain, xt_tru, xt_val, xt_not, xt_and, xt_or, xt_if, xt_yes, xit_val, xit_on, startD, xe_tup0, xe_tup1, xe_tup2, xe_tup3, xe_tup4, xe_tup5, xe_tup6, xe_lst0, xe_lst1, xe_lst2, xe_lst3, xe_lst4, xe_lst5, xe_lst6, xe_lst7, xe_lst8, xe_lst9, xe_lst10, xe_lst11, xe_lst12, xe_lst13, xe_lst14, xe_lst15, xe_lst16, so_add, so_sub, so_mul, so_fdiv, so_mod, so_lt, so_le, so_gt, so_ge, so_neg, so_notb, so_int, so_lenT, eq_int, ne_int, tru_int, tru_bl, tru_tup, tru_non, boolOf_bl, so_ix0, so_ix1, so_ix2, eq_str, ne_str, List.getElem?_cons_succ, List.getElem?_cons_zero, List.set_cons_succ, List.set_cons_zero, List.length_cons, List.length_nil, List.map_cons, List.map_nil, List.cons_append, List.nil_append, List.replicate, Nat.reduceAdd, Nat.zero_add, true_and]
    refine ⟨by omega, ?_⟩
    rw [fmod_pos (by omega)]
    have := hk none
    simpa using this
  · intro x o5
    try simp only [x_seq, x_nil, x_drop, x_ret, x_retN, x_if, x_asg1, x_par, x_raise, xe_var, xe_c, xe_op1, xe_op2, xe_if, xa_nil, xa_cons, xe_call, xe_cb, xe_and, xe_or, xe_chain, xt_tru, xt_val, xt_not, xt_and, xt_or, xt_if, xt_yes, xit_val, xit_on, startD, xe_tup0, xe_tup1, xe_tup2, xe_tup3, xe_tup4, xe_tup5, xe_tup6, xe_lst0, xe_lst1, xe_lst2, xe_lst3, xe_lst4, xe_lst5, xe_lst6, xe_lst7, xe_lst8, xe_lst9, xe_lst10, xe_lst11, xe_lst12, xe_lst13, xe_lst14, xe_lst15, xe_lst16, so_add, so_sub, so_mul, so_fdiv, so_mod, so_lt, so_le, so_gt, so_ge, so_neg, so_notb, so_int, so_lenT, eq_int, ne_int, tru_int, tru_bl, tru_tup, tru_non, boolOf_bl, so_ix0, so_ix1, so_ix2, eq_str, ne_str, List.getElem?_cons_succ, List.getElem?_cons_zero, List.set_cons_succ, List.set_cons_zero, List.length_cons, List.length_nil, List.map_cons, List.map_nil, List.cons_append, List.nil_append, List.replicate, Nat.reduceAdd, Nat.zero_add, true_and]
    rw [so_tupL (ds := dI (tr p)) (by simp)]
    rw [List.append_assoc]
    exact k _
theorem terms_x {d : D} (hd : aP d = true) (x : rtB d = false → ∀ l, AE C X "ratio" (S ++ l)) (k : ∀ p, d = pr p → Rt p → ∀ l, P (.tup (dI (tr p))) (S ++ l)) : XSat (F_terms C [d] S) P X := by
  cases hr : rtB d with
  | true =>
    obtain ⟨p, rfl, h⟩ := rt_of hr
    exact (terms_sat h (k p rfl h)).x
  | false =>
    rw [sem_terms]
    refine x_fn ?_
    unfold B_terms
    simp only [startD, List.getElem?_cons_succ, List.getElem?_cons_zero, List.set_cons_succ, List.set_cons_zero, List.length_cons, List.length_nil, List.map_cons, List.map_nil, List.cons_append, List.nil_append, List.replicate, Nat.reduceAdd, Nat.zero_add, true_and]
    simp only [x_seq, x_drop, xe_call, xa_cons, xa_nil, xe_var, List.getElem?_cons_succ, List.getElem?_cons_zero, List.set_cons_succ, List.set_cons_zero, List.length_cons, List.length_nil, List.map_cons, List.map_nil, List.cons_append, List.nil_append, List.replicate, Nat.reduceAdd, Nat.zero_add, true_and]
    exact demand_ratio_x hd (fun _ => x hr) fun z => absurd z (by rw [hr]; decide)
def hereD (l : List Int) (j : Nat) : D := if j = 0 then .non else pr (mp (l.take j)).1
def befP (l : List Int) (j : Nat) : Int × Int := if j = 0 then (1, 0) else (mp (l.take j)).2
def pfx (l : List Int) (j : Nat) : List (Int × Int) := (List.range j).map fun k => (mp (l.take (k + 1))).1
def st (l : List Int) : List (Int × Int) := (pfx l l.length).filter fun q => decide (0 < q.1)
theorem pfx_succ {l : List Int} {j : Nat} : pfx l (j + 1) = pfx l j ++ [(mp (l.take (j + 1))).1] := by
  unfold pfx
  rw [List.range_succ, List.map_append]
  rfl
theorem pfx_len {l : List Int} {j : Nat} : (pfx l j).length = j := by simp [pfx]
theorem mp_two : ∀ {l : List Int}, (∀ x ∈ l, x.natAbs < 2 ^ 31) → (mp l).2.1.natAbs < 2 ^ (32 * l.length + 1) ∧ (mp l).2.2.natAbs < 2 ^ (32 * l.length + 1)
  | [], _ => ⟨by decide, by decide⟩
  | a :: l, h => by
    obtain ⟨h1, h2⟩ := mp_two (l := l) fun x hx => h x (by simp [hx])
    have ha := h a (by simp)
    rw [mp_cons]
    have e : 2 ^ (32 * (a :: l).length + 1) = 2 ^ (31 + (32 * l.length + 1)) * 2 := by
      rw [← Nat.pow_succ]
      congr 1
      rw [List.length_cons]
      omega
    have m := mul_lt ha h1
    have q : 2 ^ (32 * l.length + 1) ≤ 2 ^ (31 + (32 * l.length + 1)) := Nat.pow_le_pow_right (by decide) (by omega)
    rw [e]
    refine ⟨?_, ?_⟩
    · show (a * (mp l).2.1 + (mp l).2.2).natAbs < _
      omega
    · show (mp l).2.1.natAbs < _
      omega
theorem mp_tk {l : List Int} (h : Row l) (i : Nat) : ((mp (l.take i)).1.1.natAbs < 2 ^ 2060 ∧ (mp (l.take i)).1.2.natAbs < 2 ^ 2060) ∧ ((mp (l.take i)).2.1.natAbs < 2 ^ 2060 ∧ (mp (l.take i)).2.2.natAbs < 2 ^ 2060) := by
  have hb : ∀ x ∈ l.take i, x.natAbs < 2 ^ 31 := fun x hx => h.b x (List.mem_of_mem_take hx)
  obtain ⟨a, b⟩ := mp_lt hb
  obtain ⟨c, d⟩ := mp_two hb
  have hl := h.len
  have e : 2 ^ (32 * (l.take i).length + 1) ≤ 2 ^ 2060 := Nat.pow_le_pow_right (by decide) (by rw [List.length_take]; omega)
  exact ⟨⟨Nat.lt_of_lt_of_le a e, Nat.lt_of_lt_of_le b e⟩, Nat.lt_of_lt_of_le c e, Nat.lt_of_lt_of_le d e⟩
theorem take_get {l : List Int} {j : Nat} {a : Int} (h : l[j]? = some a) : l.take (j + 1) = l.take j ++ [a] := by
  rw [List.take_add_one, h]
  rfl
theorem set_mid {a b : MO} {l : List MO} : (S ++ a :: l).set S.length b = S ++ b :: l := by simp
@[simp] theorem is_non_non : SatO (cmpD .Is .non .non S) P = P (.bl true) S := rfl
@[simp] theorem is_tup_non {ds : List D} : SatO (cmpD .Is (.tup ds) .non S) P = P (.bl false) S := rfl
theorem isnot_tup {ds : List D} : SatO (cmpD .IsNot (.tup ds) .non S) P = P (.bl true) S := rfl
def pC : D → Bool
  | .tup [.int a, .int _] => decide (0 < a)
  | _ => false
theorem filt_pr {ps : List (Int × Int)} : (((ps.map pr).filter pC).map fun d => d) = (ps.filter fun q => decide (0 < q.1)).map pr := by
  rw [List.map_id', List.filter_map]
  rfl
theorem stages_x {d : D} (hd : aP d = true) (x : rtB d = false → ∀ l, AE C X "ratio" (S ++ l)) (k : ∀ p, d = pr p → Rt p → ∀ l, P (.tup ((st (tr p)).map pr)) (S ++ l)) : XSat (F_stages C [d] S) P X := by
  rw [sem_stages]
  refine x_fn ?_
  unfold B_stages
  simp only [startD, List.getElem?_cons_succ, List.getElem?_cons_zero, List.set_cons_succ, List.set_cons_zero, List.length_cons, List.length_nil, List.map_cons, List.map_nil, List.cons_append, List.nil_append, List.replicate, Nat.reduceAdd, Nat.zero_add, true_and]
  simp only [x_seq, x_asg1, x_asg2, xe_lst0, xe_tup2, xe_c, xa_cons, xa_nil, List.getElem?_cons_succ, List.getElem?_cons_zero, List.set_cons_succ, List.set_cons_zero, List.length_cons, List.length_nil, List.map_cons, List.map_nil, List.cons_append, List.nil_append, List.replicate, Nat.reduceAdd, Nat.zero_add, true_and]
  refine x_for ?_
  simp only [xit_val, xe_call, xa_cons, xa_nil, xe_var, List.getElem?_cons_succ, List.getElem?_cons_zero, List.set_cons_succ, List.set_cons_zero, List.length_cons, List.length_nil, List.map_cons, List.map_nil, List.cons_append, List.nil_append, List.replicate, Nat.reduceAdd, Nat.zero_add, true_and]
  refine terms_x hd (fun hr l => ?_) fun p e hp l => ?_
  · rw [List.append_assoc]
    exact x hr _
  subst e
  have hrow := tr_row hp
  have hlen := hrow.len
  have kk := k p rfl hp
  simp only [iterD]
  generalize tr p = L at *
  refine ⟨fun j δ S' => ∃ l o2 o5, S' = S ++ .lst ((pfx L j).map pr) :: l ∧ δ = [some (pr p), some (.ref S.length), o2, some (pr (befP L j)), some (hereD L j), o5], ⟨l, none, none, by simp [pfx], rfl⟩, ?_, ?_⟩
  · rintro j d δ S' hj ⟨l, o2, o5, rfl, rfl⟩
    obtain ⟨a, ha, rfl⟩ : ∃ a, L[j]? = some a ∧ d = .int a := by
      rw [List.getElem?_map, Option.map_eq_some_iff] at hj
      obtain ⟨a, h1, rfl⟩ := hj
      exact ⟨a, h1, rfl⟩
    have hjl := (List.getElem?_eq_some_iff.mp ha).1
    have hab := hrow.b a (List.mem_of_getElem? ha)
    have et := take_get ha
    refine ⟨trivial, _, rfl, ?_⟩
    have fin : ∀ (o2 o5 : Option D) (aft : Int × Int), aft = (mp (L.take (j + 1))).1 → befP L (j + 1) = (if j = 0 then (1, 0) else (mp (L.take j)).1) → XR (sSeq (sDrop (eMt miApp (eVar 1) (aCons (eVar 4) aNil))) sNil [some (pr p), some (.ref S.length), o2, some (pr (befP L (j + 1))), some (pr aft), o5] (S ++ .lst ((pfx L j).map pr) :: l)) (fun δ S' => ∃ l o2 o5, S' = S ++ .lst ((pfx L (j + 1)).map pr) :: l ∧ δ = [some (pr p), some (.ref S.length), o2, some (pr (befP L (j + 1))), some (hereD L (j + 1)), o5]) P (fun _ => X) := by
      intro o2 o5 aft e1 _
      simp only [x_seq, x_drop, xe_mt, xe_var, xa_cons, xa_nil, x_nil, List.getElem?_cons_succ, List.getElem?_cons_zero, List.set_cons_succ, List.set_cons_zero, List.length_cons, List.length_nil, List.map_cons, List.map_nil, List.cons_append, List.nil_append, List.replicate, Nat.reduceAdd, Nat.zero_add, true_and]
      refine ⟨isTy_lst (ds := (pfx L j).map pr) (by simp), ?_⟩
      rw [miApp_g, app_lst (ds := (pfx L j).map pr) (by simp) (by rw [List.length_map, pfx_len]; exact lt_size (by omega)), set_mid]
      simp only [sato_some]
      refine ⟨l, o2, o5, ?_, ?_⟩
      · rw [pfx_succ, List.map_append, e1]
        rfl
      · have : hereD L (j + 1) = pr aft := by
          unfold hereD
          rw [if_neg (by omega), e1]
        rw [this]
    by_cases hj0 : j = 0
    · subst hj0
      have e1 : (mp (L.take 1)).1 = (a, 1) ∧ (mp (L.take 1)).2 = (1, 0) := by
        rw [et, List.take_zero]
        simp [mp]
      have eh : hereD L 0 = .non := rfl
      have eb : befP L 0 = (1, 0) := rfl
      have eb1 : befP L 1 = (1, 0) := by
        unfold befP
        rw [if_neg (by decide), e1.2]
      rw [eh]
      simp only [x_seq, x_asg1, xe_if, xt_val, xe_op2, xe_var, xe_c, is_non_non, so_isnot_nn, boolOf_bl, if_true, xe_tup2, x_if, Bool.false_eq_true, if_false, x_nil, List.getElem?_cons_succ, List.getElem?_cons_zero, List.set_cons_succ, List.set_cons_zero, List.length_cons, List.length_nil, List.map_cons, List.map_nil, List.cons_append, List.nil_append, List.replicate, Nat.reduceAdd, Nat.zero_add, true_and]
      have := fin (some (.int a)) (some (.tup [.int a, .int 1])) (a, 1) e1.1.symm (by rw [eb1, if_pos rfl])
      rw [eb1] at this
      rw [eb]
      simp only [x_seq, x_drop, x_nil] at this ⊢
      rw [eb1]
      exact this
    · have eh : hereD L j = pr (mp (L.take j)).1 := by
        unfold hereD
        rw [if_neg hj0]
      have eb : befP L j = (mp (L.take j)).2 := by
        unfold befP
        rw [if_neg hj0]
      have es : mp (L.take (j + 1)) = ((a * (mp (L.take j)).1.1 + (mp (L.take j)).2.1, a * (mp (L.take j)).1.2 + (mp (L.take j)).2.2), (mp (L.take j)).1) := by rw [et]; exact mp_snoc
      have eb1 : befP L (j + 1) = (mp (L.take j)).1 := by
        unfold befP
        rw [if_neg (by omega), es]
      obtain ⟨⟨m1, m2⟩, _⟩ := mp_tk hrow j
      rw [eh, eb]
      simp only [x_seq, x_asg1, xe_if, xt_val, xe_op2, xe_var, xe_c, is_tup_non, isnot_tup, boolOf_bl, if_true, xe_tup2, x_if, Bool.false_eq_true, if_false, x_nil, so_ix0, so_ix1, so_mul, so_add, List.getElem?_cons_succ, List.getElem?_cons_zero, List.set_cons_succ, List.set_cons_zero, List.length_cons, List.length_nil, List.map_cons, List.map_nil, List.cons_append, List.nil_append, List.replicate, Nat.reduceAdd, Nat.zero_add, true_and]
      refine ⟨mulOk hab m1 (by decide), mulOk hab m2 (by decide), ?_⟩
      have := fin (some (.int a)) (some (pr (a * (mp (L.take j)).1.1 + (mp (L.take j)).2.1, a * (mp (L.take j)).1.2 + (mp (L.take j)).2.2))) (a * (mp (L.take j)).1.1 + (mp (L.take j)).2.1, a * (mp (L.take j)).1.2 + (mp (L.take j)).2.2) (by rw [es]) (by rw [eb1, if_neg hj0])
      rw [eb1] at this
      simp only [x_seq, x_drop, x_nil] at this ⊢
      rw [eb1]
      exact this
  · rintro δ S' ⟨l, o2, o5, rfl, rfl⟩
    refine ⟨trivial, ?_⟩
    rw [List.length_map]
    simp only [x_seq, x_ret, xe_cb, xa_cons, xa_nil, List.getElem?_cons_succ, List.getElem?_cons_zero, List.set_cons_succ, List.set_cons_zero, List.length_cons, List.length_nil, List.map_cons, List.map_nil, List.cons_append, List.nil_append, List.replicate, Nat.reduceAdd, Nat.zero_add, true_and]
    refine Sat.x (lc_filt (items := (pfx L L.length).map pr) (g := fun d => d) (c := pC) ?_ ?_ (by rw [List.length_map, pfx_len]; omega) fun l2 => ?_)
    · refine XSat.s ?_
      simp only [xit_val, xe_var, List.getElem?_cons_succ, List.getElem?_cons_zero, List.set_cons_succ, List.set_cons_zero, List.length_cons, List.length_nil, List.map_cons, List.map_nil, List.cons_append, List.nil_append, List.replicate, Nat.reduceAdd, Nat.zero_add, true_and]
      rw [iter_ref (ds := (pfx L L.length).map pr) (by simp)]
      refine ⟨fun l => ⟨?_, trivial⟩, ?_⟩
      · simp
      · first
          | exact ⟨rfl, rfl⟩
          | exact trivial
          | rfl
    · intro d hd
      obtain ⟨q, _, rfl⟩ := List.mem_map.mp hd
      refine ⟨_, rfl, fun S' P kk => XSat.s ?_, fun S' P kk => XSat.s ?_⟩
      · simp only [wipeD, x_seq, x_nil, x_drop, x_ret, x_retN, x_if, x_asg1, x_par, x_raise, xe_var, xe_c, xe_op1, xe_op2, xe_if, xa_nil, xa_cons, xe_call, xe_cb, xe_and, xe_or, xe_chain, xt_tru, xt_val, xt_not, xt_and, xt_or, xt_if, xt_yes, xit_val, xit_on, startD, xe_tup0, xe_tup1, xe_tup2, xe_tup3, xe_tup4, xe_tup5, xe_tup6, xe_lst0, xe_lst1, xe_lst2, xe_lst3, xe_lst4, xe_lst5, xe_lst6, xe_lst7, xe_lst8, xe_lst9, xe_lst10, xe_lst11, xe_lst12, xe_lst13, xe_lst14, xe_lst15, xe_lst16, so_add, so_sub, so_mul, so_fdiv, so_mod, so_lt, so_le, so_gt, so_ge, so_neg, so_notb, so_int, so_lenT, eq_int, ne_int, tru_int, tru_bl, tru_tup, tru_non, boolOf_bl, so_ix0, so_ix1, so_ix2, eq_str, ne_str, List.getElem?_cons_succ, List.getElem?_cons_zero, List.set_cons_succ, List.set_cons_zero, List.length_cons, List.length_nil, List.map_cons, List.map_nil, List.cons_append, List.nil_append, List.replicate, Nat.reduceAdd, Nat.zero_add, true_and]
        have := kk []
        rwa [List.append_nil] at this
      · simp only [wipeD, x_seq, x_nil, x_drop, x_ret, x_retN, x_if, x_asg1, x_par, x_raise, xe_var, xe_c, xe_op1, xe_op2, xe_if, xa_nil, xa_cons, xe_call, xe_cb, xe_and, xe_or, xe_chain, xt_tru, xt_val, xt_not, xt_and, xt_or, xt_if, xt_yes, xit_val, xit_on, startD, xe_tup0, xe_tup1, xe_tup2, xe_tup3, xe_tup4, xe_tup5, xe_tup6, xe_lst0, xe_lst1, xe_lst2, xe_lst3, xe_lst4, xe_lst5, xe_lst6, xe_lst7, xe_lst8, xe_lst9, xe_lst10, xe_lst11, xe_lst12, xe_lst13, xe_lst14, xe_lst15, xe_lst16, so_add, so_sub, so_mul, so_fdiv, so_mod, so_lt, so_le, so_gt, so_ge, so_neg, so_notb, so_int, so_lenT, eq_int, ne_int, tru_int, tru_bl, tru_tup, tru_non, boolOf_bl, so_ix0, so_ix1, so_ix2, eq_str, ne_str, List.getElem?_cons_succ, List.getElem?_cons_zero, List.set_cons_succ, List.set_cons_zero, List.length_cons, List.length_nil, List.map_cons, List.map_nil, List.cons_append, List.nil_append, List.replicate, Nat.reduceAdd, Nat.zero_add, true_and]
        exact kk
    · rw [filt_pr]
      rw [so_tupL (ds := (st L).map pr) (by unfold st; simp)]
      rw [List.append_assoc]
      exact kk _
def timesP (a b : Int × Int) : Int × Int := fp (a.1 * b.1) (a.2 * b.2)
def errP (p f : Int × Int) : Int × Int := minusP (timesP f (p.2, p.1)) (1, 1)
theorem times_sm {n m : Nat} {a b : Int × Int} (ha : Sm n a) (hb : Sm m b) : Sm (n + m) (timesP a b) := fp_sm (mul_lt ha.l hb.l) (mul_lt ha.r hb.r) (Int.mul_pos ha.z hb.z)
theorem swap_sm {n : Nat} {p : Int × Int} (h : Rt p) : Sm 31 (p.2, p.1) := by
  have := h.a1; have := h.a2; have := h.b1; have := h.b2
  exact ⟨by show p.2.natAbs < _; omega, by show p.1.natAbs < _; omega, by show 0 < p.1; omega⟩
theorem one_sm : Sm 1 ((1 : Int), (1 : Int)) := ⟨by decide, by decide, by decide⟩
theorem st_last {L : List Int} (h : Row L) (h0 : L ≠ [0]) : ∃ A, st L = A ++ [(mp L).1] := by
  have hp : 0 < L.length := List.length_pos_iff.mpr h.ne
  obtain ⟨n, hn⟩ : ∃ n, L.length = n + 1 := ⟨L.length - 1, by omega⟩
  unfold st
  rw [hn, pfx_succ, List.filter_append, ← hn, List.take_length]
  refine ⟨(pfx L n).filter fun q => decide (0 < q.1), ?_⟩
  congr 1
  simp only [List.filter_cons, List.filter_nil]
  rw [if_pos (decide_eq_true (h.over.mpr h0))]
theorem error_sat {p : Int × Int} (hp : Rt p) (k : ∀ l, P (pr (errP p p)) (S ++ l)) : Sat (F_error C [pr p, pr p] S) P := by
  rw [sem_error]
  refine XSat.s (x_fn ?_)
  unfold B_error
  simp only [startD, List.getElem?_cons_succ, List.getElem?_cons_zero, List.set_cons_succ, List.set_cons_zero, List.length_cons, List.length_nil, List.map_cons, List.map_nil, List.cons_append, List.nil_append, List.replicate, Nat.reduceAdd, Nat.zero_add, true_and]
  rw [x_seq, x_drop]
  simp only [xe_call, xa_cons, xa_nil, xe_var, List.getElem?_cons_succ, List.getElem?_cons_zero, List.set_cons_succ, List.set_cons_zero, List.length_cons, List.length_nil, List.map_cons, List.map_nil, List.cons_append, List.nil_append, List.replicate, Nat.reduceAdd, Nat.zero_add, true_and]
  refine demand_ratio_x rfl (fun z => absurd z (by rw [rtB_pr.mpr hp]; decide)) fun _ l => ?_
  rw [x_seq, x_if]
  simp only [xt_not, xt_tru, xe_call, xa_cons, xa_nil, xe_var, xe_c, List.getElem?_cons_succ, List.getElem?_cons_zero, List.set_cons_succ, List.set_cons_zero, List.length_cons, List.length_nil, List.map_cons, List.map_nil, List.cons_append, List.nil_append, List.replicate, Nat.reduceAdd, Nat.zero_add, true_and]
  refine (is_bounded_sat rfl fun l2 => ?_).x
  rw [bdB_pr.mpr ⟨hp.a1, hp.a2, hp.b1, hp.b2, hp.co⟩]
  simp only [tru_bl, Bool.not_true, Bool.false_eq_true, if_false, x_nil]
  rw [x_seq, x_ret]
  simp only [xe_call, xa_cons, xa_nil, xe_var, List.getElem?_cons_succ, List.getElem?_cons_zero, List.set_cons_succ, List.set_cons_zero, List.length_cons, List.length_nil, List.map_cons, List.map_nil, List.cons_append, List.nil_append, List.replicate, Nat.reduceAdd, Nat.zero_add, true_and]
  rw [sem_error_of]
  refine x_fn ?_
  unfold B_error_of
  try simp only [x_seq, x_nil, x_drop, x_ret, x_retN, x_if, x_asg1, x_par, x_raise, xe_var, xe_c, xe_op1, xe_op2, xe_if, xa_nil, xa_cons, xe_call, xe_cb, xe_and, xe_or, xe_chain, xt_tru, xt_val, xt_not, xt_and, xt_or, xt_if, xt_yes, xit_val, xit_on, startD, xe_tup0, xe_tup1, xe_tup2, xe_tup3, xe_tup4, xe_tup5, xe_tup6, xe_lst0, xe_lst1, xe_lst2, xe_lst3, xe_lst4, xe_lst5, xe_lst6, xe_lst7, xe_lst8, xe_lst9, xe_lst10, xe_lst11, xe_lst12, xe_lst13, xe_lst14, xe_lst15, xe_lst16, so_add, so_sub, so_mul, so_fdiv, so_mod, so_lt, so_le, so_gt, so_ge, so_neg, so_notb, so_int, so_lenT, eq_int, ne_int, tru_int, tru_bl, tru_tup, tru_non, boolOf_bl, so_ix0, so_ix1, so_ix2, eq_str, ne_str, List.getElem?_cons_succ, List.getElem?_cons_zero, List.set_cons_succ, List.set_cons_zero, List.length_cons, List.length_nil, List.map_cons, List.map_nil, List.cons_append, List.nil_append, List.replicate, Nat.reduceAdd, Nat.zero_add, true_and]
  have sp := swap_sm (n := 0) hp
  have sf := hp.sm
  refine (times_sat (by have := sf.z; omega) (by have := sp.z; exact (by omega : p.1 ≠ 0)) (two_lt sf.l (by decide)) (two_lt sf.r (by decide)) (two_lt sp.l (by decide)) (two_lt sp.r (by decide)) ?_).x
  refine (minus_sat (a := timesP p (p.2, p.1)) (b := (1, 1)) ((times_sm sf sp).up (by decide)) (one_sm.up (by decide)) ?_).x
  rw [List.append_assoc]
  exact k _
theorem err_zero {p : Int × Int} (hp : Rt p) : errP p p = (0, 1) := by
  have a1 := hp.a1; have b1 := hp.b1
  have pos : 0 < p.1 * p.2 := Int.mul_pos (by omega) (by omega)
  have e : timesP p (p.2, p.1) = (1, 1) := by
    unfold timesP
    rw [fp_fr (c := 1) (d := 1) (by show 0 < p.2 * p.1; rw [Int.mul_comm]; exact pos) (by decide) (by show p.1 * p.2 * 1 = 1 * (p.2 * p.1); rw [Int.mul_one, Int.one_mul, Int.mul_comm])]
    decide
  unfold errP
  rw [e]
  decide
end
end K27
set_option Elab.async false
set_option linter.all false
set_option maxRecDepth 100000
set_option maxHeartbeats 1000000
namespace K27
open PySem L2 DL
/-! the mathematics: rests, rows of fractions, stages -/
theorem bez : ∀ (b a : Nat), Nat.gcd a b = 1 → ∃ x y : Int, (a : Int) * x + (b : Int) * y = 1 := by
  intro b
  induction b using Nat.strongRecOn with
  | ind b ih =>
    intro a h
    by_cases hb : b = 0
    · subst hb
      rw [Nat.gcd_zero_right] at h
      subst h
      exact ⟨1, 0, by decide⟩
    · have hr : a % b < b := Nat.mod_lt _ (by omega)
      have hg : Nat.gcd b (a % b) = 1 := by
        rw [← h, Nat.gcd_comm a b, Nat.gcd_rec b a, Nat.gcd_comm]
      obtain ⟨x, y, e⟩ := ih (a % b) hr b hg
      refine ⟨y, x - ((a / b : Nat) : Int) * y, ?_⟩
      have hd : (a : Int) = (b : Int) * ((a / b : Nat) : Int) + ((a % b : Nat) : Int) := by
        have := Nat.div_add_mod a b
        exact_mod_cast this.symm
      rw [hd]
      generalize ((a / b : Nat) : Int) = k at *
      generalize ((a % b : Nat) : Int) = r at *
      grind
theorem bezI {a b : Int} (ha : 0 ≤ a) (hb : 0 ≤ b) (h : Int.gcd a b = 1) : ∃ x y : Int, a * x + b * y = 1 := by
  have := bez b.toNat a.toNat (by
    rw [← h]
    show Nat.gcd _ _ = Nat.gcd a.natAbs b.natAbs
    congr 1 <;> omega)
  obtain ⟨x, y, e⟩ := this
  refine ⟨x, y, ?_⟩
  have e1 : ((a.toNat : Nat) : Int) = a := by omega
  have e2 : ((b.toNat : Nat) : Int) = b := by omega
  rw [e1, e2] at e
  exact e
/-- a number in reach by which a times is s more than a multiple of b -/
theorem rest_ex {a b s lo : Int} (ha : 0 ≤ a) (hb : 1 ≤ b) (h : Int.gcd a b = 1) : ∃ z, lo ≤ z ∧ z < lo + b ∧ (a * z - s) % b = 0 := by
  obtain ⟨x, y, e⟩ := bezI ha (by omega) h
  refine ⟨lo + (s * x - lo) % b, by have := Int.emod_nonneg (s * x - lo) (show b ≠ 0 by omega); omega, by have := Int.emod_lt_of_pos (s * x - lo) (show 0 < b by omega); omega, ?_⟩
  have hd := Int.emod_add_mul_ediv (s * x - lo) b
  have e1 : (s * x - lo) % b = s * x - lo - b * ((s * x - lo) / b) := by omega
  rw [e1]
  generalize (s * x - lo) / b = k
  have : a * (lo + (s * x - lo - b * k)) - s = b * (-(s * y) - a * k) := by grind
  rw [this]
  exact Int.mul_emod_right _ _
theorem rest_uniq {a b s z w : Int} (hb : 1 ≤ b) (h : Int.gcd a b = 1) (h1 : (a * z - s) % b = 0) (h2 : (a * w - s) % b = 0) : b ∣ z - w := by
  have d1 := Int.dvd_of_emod_eq_zero h1
  have d2 := Int.dvd_of_emod_eq_zero h2
  have d3 : b ∣ (z - w) * a := by
    have := Int.dvd_sub d1 d2
    have e : a * z - s - (a * w - s) = (z - w) * a := by grind
    rwa [e] at this
  exact dvd_co (by rw [Int.gcd_comm]; exact h) d3
/-- the next fraction of a row -/
structure Nx (m a b c d : Int) : Prop where
  a1 : 1 ≤ a
  ab : a < b
  bm : b ≤ m
  det : c * b - a * d = 1
  d1 : 1 ≤ d
  dm : d ≤ m
  f : m < b + d
variable {m a b c d : Int}
theorem Nx.cd (h : Nx m a b c d) : 1 ≤ c ∧ c ≤ d := by
  have det := h.det
  have a1 := h.a1
  have ab := h.ab
  have d1 := h.d1
  constructor
  · have : 0 < c * b := by have := Int.mul_pos (show 0 < a by omega) (show 0 < d by omega); omega
    have : 0 < c := Int.pos_of_mul_pos_left this (by omega)
    omega
  · by_cases hc : c ≤ d
    · exact hc
    · have k1 := Int.mul_le_mul_of_nonneg_right (show d + 1 ≤ c by omega) (show 0 ≤ b by omega)
      have k2 := Int.mul_le_mul_of_nonneg_right (show a + 1 ≤ b by omega) (show 0 ≤ d by omega)
      have e : (d + 1) * b = b * d + b := by grind
      have e2 : (a + 1) * d = a * d + d := by grind
      omega
theorem Nx.bd (h : Nx m a b c d) : Bd m (c, d) := by
  have ⟨h1, h2⟩ := h.cd
  have := h.d1; have := h.dm
  refine ⟨h1, by show c ≤ m; omega, by show 1 ≤ d; omega, by show d ≤ m; omega, ?_⟩
  have := det_gcd (a := d) (b := c) (c := b) (d := a) (by have := h.det; grind)
  show Int.gcd c d = 1
  rw [Int.gcd_comm]
  exact this
theorem nx_ex (h : Bd m (a, b)) (hab : a < b) : ∃ c d, Nx m a b c d := by
  have a1 : 1 ≤ a := h.a1
  have bm : b ≤ m := h.b2
  have co : Int.gcd a b = 1 := h.co
  obtain ⟨d, l1, l2, l3⟩ := rest_ex (a := a) (b := b) (s := -1) (lo := m - b + 1) (by omega) (by omega) co
  have dv := Int.dvd_of_emod_eq_zero l3
  obtain ⟨c, hc⟩ := dv
  exact ⟨c, d, a1, hab, bm, by grind, by omega, by omega, by omega⟩
/-- nothing of the row lies between -/
theorem Nx.gap (h : Nx m a b c d) {x y : Int} (y1 : 1 ≤ y) (ym : y ≤ m) (hl : a * y < x * b) : c * y ≤ x * d := by
  have det := h.det
  by_cases hc : c * y ≤ x * d
  · exact hc
  · have ey : y = (x * b - a * y) * d + (c * y - x * d) * b := by
      have : (x * b - a * y) * d + (c * y - x * d) * b = y * (c * b - a * d) := by grind
      rw [this, det, Int.mul_one]
    have k1 := Int.mul_le_mul_of_nonneg_right (show 1 ≤ x * b - a * y by omega) (show 0 ≤ d by have := h.d1; omega)
    have k2 := Int.mul_le_mul_of_nonneg_right (show 1 ≤ c * y - x * d by omega) (show 0 ≤ b by have := h.a1; have := h.ab; omega)
    have := h.f
    omega
/-- what is left of the row -/
def lft (m a b : Int) : Nat := (m * m * (b - a) / b).toNat
theorem Nx.lft (h : Nx m a b c d) : lft m c d < lft m a b := by
  have det := h.det
  have a1 := h.a1; have ab := h.ab; have d1 := h.d1; have dm := h.dm; have bm := h.bm
  have ⟨c1, cd⟩ := h.cd
  unfold K27.lft
  have key : m * m * (d - c) / d + 1 ≤ m * m * (b - a) / b := by
    have hq := Int.ediv_mul_le (m * m * (d - c)) (show d ≠ 0 by omega)
    generalize m * m * (d - c) / d = u at *
    have hm : b * d ≤ m * m := Int.mul_le_mul bm dm (by omega) (by omega)
    refine (Int.le_ediv_iff_mul_le (show 0 < b by omega)).mpr ?_
    have h1 : u * d * b ≤ m * m * (d - c) * b := Int.mul_le_mul_of_nonneg_right hq (by omega)
    have h2 : m * m * (d - c) * b = m * m * (b - a) * d - m * m := by
      have : (d - c) * b = (b - a) * d - 1 := by grind
      have e : m * m * (d - c) * b = m * m * ((d - c) * b) := by grind
      rw [e, this]
      grind
    have h3 : (u + 1) * b * d ≤ m * m * (b - a) * d := by
      have : (u + 1) * b * d = u * d * b + b * d := by grind
      omega
    exact Int.le_of_mul_le_mul_right h3 (by omega)
  have h0 : 0 ≤ m * m * (d - c) / d := Int.ediv_nonneg (Int.mul_nonneg (Int.mul_nonneg (by omega) (by omega)) (by omega)) (by omega)
  omega
/-- how the neighbours stand in the row -/
theorem NbF.nx {p q : Int} (h : NbF p q m a b c d) (ha : a ≠ 0) (hd : d ≠ 0) (hpq : p < q) : Nx m a b c d := by
  have n := h.n
  have a0 := n.a0; have b1 := n.b1; have c1 := n.c1; have d0 := n.d0; have q1 := n.q1; have p1 := n.p1
  have lo := n.lo
  have cd : c * 1 ≤ 1 * d := h.high_best (x := 1) (y := 1) (by decide) (by have := n.cm; omega) (by have := n.cm; omega) (by omega)
  have ab : a < b := by
    have : a * q < b * q := by
      have := Int.mul_lt_mul_of_pos_right hpq (show 0 < b by omega)
      have e : q * b = b * q := Int.mul_comm _ _
      omega
    exact Int.lt_of_mul_lt_mul_right this (by omega)
  refine ⟨by omega, ab, n.bm, n.det, by omega, n.dm, ?_⟩
  have := h.f
  omega
/-! nearest -/
/-- how far, times both unders -/
def gp (f r : Int × Int) : Int := ((f.1 * r.2 - r.1 * f.2).natAbs : Int)
/-- the gap as a fraction -/
def gpF (f r : Int × Int) : Int × Int := fp (gp f r) (f.2 * r.2)
theorem blw_cross {A B E F : Int} (hB : 0 < B) (hF : 0 < F) : blw (fp A B) (fp E F) = decide (A * F < E * B) := by
  rw [fp_fr (c := A * F) (d := B * F) hB (Int.mul_pos hB hF) (by grind), fp_fr (a := E) (b := F) (c := E * B) (d := B * F) hF (Int.mul_pos hB hF) (by grind), blw_fp (Int.mul_pos hB hF)]
/-- f is as near to r as any of the bound -/
structure Best (m : Int) (r f : Int × Int) : Prop where
  bd : Bd m f
  le : ∀ x y : Int, 1 ≤ x → x ≤ m → 1 ≤ y → y ≤ m → gp f r * y ≤ gp (x, y) r * f.2
theorem gp_low {f r : Int × Int} (h : f.1 * r.2 ≤ r.1 * f.2) : gp f r = r.1 * f.2 - f.1 * r.2 := by
  unfold gp
  omega
theorem gp_high {f r : Int × Int} (h : r.1 * f.2 ≤ f.1 * r.2) : gp f r = f.1 * r.2 - r.1 * f.2 := by
  unfold gp
  omega
theorem minus_low {f r : Int × Int} (h : f.1 * r.2 ≤ r.1 * f.2) : minusP r f = fp (gp f r) (f.2 * r.2) := by
  unfold minusP
  rw [gp_low h, Int.mul_comm r.2 f.2]
theorem minus_high {f r : Int × Int} (h : r.1 * f.2 ≤ f.1 * r.2) : minusP f r = fp (gp f r) (f.2 * r.2) := by
  unfold minusP
  rw [gp_high h]
theorem low_le {p q x y : Int} (h : NbF p q m a b c d) (x1 : 1 ≤ x) (xm : x ≤ m) (y1 : 1 ≤ y) (ym : y ≤ m) (hr : x * q ≤ p * y) : gp (a, b) (p, q) * y ≤ gp (x, y) (p, q) * b := by
  have k := h.low_best y1 xm ym hr
  have e1 : gp (a, b) (p, q) = p * b - a * q := gp_low (f := (a, b)) (r := (p, q)) (by have := h.n.lo; show a * q ≤ p * b; omega)
  have e2 : gp (x, y) (p, q) = p * y - x * q := gp_low (f := (x, y)) (r := (p, q)) hr
  rw [e1, e2]
  have k2 := Int.mul_le_mul_of_nonneg_right k (show 0 ≤ q by have := h.n.q1; omega)
  have : (p * b - a * q) * y = p * b * y - a * y * q := by grind
  have : (p * y - x * q) * b = p * b * y - x * b * q := by grind
  omega
theorem high_le {p q x y : Int} (h : NbF p q m a b c d) (x1 : 1 ≤ x) (xm : x ≤ m) (y1 : 1 ≤ y) (ym : y ≤ m) (hr : p * y ≤ x * q) : gp (c, d) (p, q) * y ≤ gp (x, y) (p, q) * d := by
  have k := h.high_best x1 xm ym hr
  have e1 : gp (c, d) (p, q) = c * q - p * d := gp_high (f := (c, d)) (r := (p, q)) (by have := h.n.hi; show p * d ≤ c * q; omega)
  have e2 : gp (x, y) (p, q) = x * q - p * y := gp_high (f := (x, y)) (r := (p, q)) hr
  rw [e1, e2]
  have k2 := Int.mul_le_mul_of_nonneg_right k (show 0 ≤ q by have := h.n.q1; omega)
  have : (c * q - p * d) * y = c * y * q - p * d * y := by grind
  have : (x * q - p * y) * d = x * d * q - p * d * y := by grind
  omega
theorem gp_nn {f r : Int × Int} : 0 ≤ gp f r := by unfold gp; omega
theorem near_best {r : Int × Int} {t : OP × OP} (hr : Rt r) (m1 : 1 ≤ m) (h : Arnd r m t) : ∃ f, nearD r t = pr f ∧ Best m r f := by
  obtain ⟨p, q⟩ := r
  rcases h with ⟨hm, rfl⟩ | ⟨hm, a, b, c, d, hn, rfl⟩
  · have hm : max p q ≤ m := hm
    refine ⟨(p, q), ?_, ⟨⟨hr.a1, by show p ≤ m; omega, hr.b1, by show q ≤ m; omega, hr.co⟩, fun x y x1 xm y1 ym => ?_⟩⟩
    · show pr (if _ then _ else _) = _
      split <;> rfl
    · have e : gp (p, q) (p, q) = 0 := by
        unfold gp
        show ((p * q - p * q).natAbs : Int) = 0
        rw [Int.sub_self]
        rfl
      rw [e, Int.zero_mul]
      exact Int.mul_nonneg gp_nn (by have := hr.b1; show 0 ≤ q; have : 1 ≤ q := hr.b1; omega)
  · have n := hn.n
    have a0 := n.a0; have b1 := n.b1; have c1 := n.c1; have d0 := n.d0; have q1 := n.q1; have p1 := n.p1
    have side : ∀ x y : Int, x * q ≤ p * y ∨ p * y ≤ x * q := fun x y => by omega
    have g1 : Int.gcd a b = 1 := det_gcd n.det
    have g2 : Int.gcd c d = 1 := by
      rw [Int.gcd_comm]
      exact det_gcd (a := d) (b := c) (c := b) (d := a) (by have := n.det; grind)
    have lo0 : a = 0 → ∀ x y : Int, 1 ≤ x → x ≤ m → 1 ≤ y → y ≤ m → p * y ≤ x * q := fun ha x y x1 xm y1 ym => by
      rcases side x y with hs | hs
      · have k := hn.low_best y1 xm ym hs
        rw [ha, Int.zero_mul] at k
        have := Int.mul_pos (show 0 < x by omega) (show 0 < b by omega)
        omega
      · exact hs
    have hi0 : d = 0 → ∀ x y : Int, 1 ≤ x → x ≤ m → 1 ≤ y → y ≤ m → x * q ≤ p * y := fun hd x y x1 xm y1 ym => by
      rcases side x y with hs | hs
      · exact hs
      · have k := hn.high_best x1 xm ym hs
        rw [hd, Int.mul_zero] at k
        have := Int.mul_pos (show 0 < c by omega) (show 0 < y by omega)
        omega
    have bl : a ≠ 0 → Bd m (a, b) := fun ha => ⟨by show 1 ≤ a; omega, n.am, by show 1 ≤ b; omega, n.bm, g1⟩
    have bh : d ≠ 0 → Bd m (c, d) := fun hd => ⟨by show 1 ≤ c; omega, n.cm, by show 1 ≤ d; omega, n.dm, g2⟩
    by_cases ha : a = 0
    · have hd : d ≠ 0 := fun hd => by
        have := n.det
        rw [ha] at this
        have h1 := lo0 ha 1 1 (by decide) m1 (by decide) m1
        have h2 := hi0 hd 1 1 (by decide) m1 (by decide) m1
        have e := n.cm; have e2 := n.bm
        rw [Int.zero_mul, Int.sub_zero] at this
        have hmq : m < max p q := hm
        have : p = q := by omega
        have co : Int.gcd p q = 1 := hr.co
        subst this
        rw [Int.gcd_self] at co
        omega
      refine ⟨(c, d), ?_, ⟨bh hd, fun x y x1 xm y1 ym => high_le hn x1 xm y1 ym (lo0 ha x y x1 xm y1 ym)⟩⟩
      rw [if_pos ha, if_neg hd]
      rfl
    · by_cases hd : d = 0
      · refine ⟨(a, b), ?_, ⟨bl ha, fun x y x1 xm y1 ym => low_le hn x1 xm y1 ym (hi0 hd x y x1 xm y1 ym)⟩⟩
        rw [if_neg ha, if_pos hd]
        rfl
      · rw [if_neg ha, if_neg hd]
        have bP : 0 < b * q := Int.mul_pos (by omega) (by omega)
        have dP : 0 < d * q := Int.mul_pos (by omega) (by omega)
        have eb : blw (minusP (c, d) (p, q)) (minusP (p, q) (a, b)) = decide (gp (c, d) (p, q) * (b * q) < gp (a, b) (p, q) * (d * q)) := by
          rw [minus_high (f := (c, d)) (r := (p, q)) (by have h1 : p * d < c * q := n.hi; show p * d ≤ c * q; omega), minus_low (f := (a, b)) (r := (p, q)) (by have h1 : a * q < p * b := n.lo; show a * q ≤ p * b; omega)]
          exact blw_cross dP bP
        have nb : nearD (p, q) (some (a, b), some (c, d)) = pr (if blw (minusP (c, d) (p, q)) (minusP (p, q) (a, b)) = true then (c, d) else (a, b)) := rfl
        rw [nb, eb]
        have tr : ∀ {A B E x1 x2 y : Int}, 0 < x1 → 0 < x2 → 0 ≤ y → A * x2 ≤ B * x1 → B * y ≤ E * x2 → A * y ≤ E * x1 := fun {A B E x1 x2 y} h1 h2 h3 h4 h5 => by
          have k1 := Int.mul_le_mul_of_nonneg_right h4 h3
          have k2 := Int.mul_le_mul_of_nonneg_right h5 (Int.le_of_lt h1)
          have : A * y * x2 ≤ E * x1 * x2 := by
            have e1 : A * x2 * y = A * y * x2 := by grind
            have e2 : B * x1 * y = B * y * x1 := by grind
            have e3 : E * x2 * x1 = E * x1 * x2 := by grind
            omega
          exact Int.le_of_mul_le_mul_right this h2
        by_cases hc : gp (c, d) (p, q) * (b * q) < gp (a, b) (p, q) * (d * q)
        · rw [decide_eq_true hc]
          have hc' : gp (c, d) (p, q) * b ≤ gp (a, b) (p, q) * d := by
            have : gp (c, d) (p, q) * b * q ≤ gp (a, b) (p, q) * d * q := by
              rw [Int.mul_assoc, Int.mul_assoc]
              omega
            exact Int.le_of_mul_le_mul_right this (by omega)
          refine ⟨(c, d), rfl, ⟨bh hd, fun x y x1 xm y1 ym => ?_⟩⟩
          rcases side x y with hs | hs
          · exact tr (B := gp (a, b) (p, q)) (x2 := b) (by show 0 < d; omega) (by omega) (by omega) hc' (low_le hn x1 xm y1 ym hs)
          · exact high_le hn x1 xm y1 ym hs
        · rw [decide_eq_false hc]
          have hc' : gp (a, b) (p, q) * d ≤ gp (c, d) (p, q) * b := by
            have : gp (a, b) (p, q) * d * q ≤ gp (c, d) (p, q) * b * q := by
              rw [Int.mul_assoc, Int.mul_assoc]
              omega
            exact Int.le_of_mul_le_mul_right this (by omega)
          refine ⟨(a, b), rfl, ⟨bl ha, fun x y x1 xm y1 ym => ?_⟩⟩
          rcases side x y with hs | hs
          · exact low_le hn x1 xm y1 ym hs
          · exact tr (B := gp (c, d) (p, q)) (x2 := d) (by show 0 < b; omega) (by omega) (by omega) hc' (high_le hn x1 xm y1 ym hs)
/-- two gaps, both least, are one fraction -/
theorem best_eq {r f g : Int × Int} (hr : Rt r) (hf : Best m r f) (hg : Bd m g) (h : blw (gpF f r) (gpF g r) = false) : gpF f r = gpF g r := by
  have r2 := hr.b1
  have f2 := hf.bd.b1
  have g2 := hg.b1
  have fP : 0 < f.2 * r.2 := Int.mul_pos (by omega) (by omega)
  have gP : 0 < g.2 * r.2 := Int.mul_pos (by omega) (by omega)
  have k := hf.le g.1 g.2 hg.a1 hg.a2 hg.b1 hg.b2
  unfold gpF at h ⊢
  rw [blw_cross fP gP, decide_eq_false_iff_not] at h
  refine fp_fr fP gP ?_
  have k2 := Int.mul_le_mul_of_nonneg_right k (show 0 ≤ r.2 by omega)
  have e1 : gp f r * g.2 * r.2 = gp f r * (g.2 * r.2) := by grind
  have e2 : gp (g.1, g.2) r * f.2 * r.2 = gp g r * (f.2 * r.2) := by
    show gp g r * f.2 * r.2 = _
    grind
  omega
end K27
set_option Elab.async false
set_option linter.all false
set_option maxRecDepth 100000
set_option maxHeartbeats 1000000
namespace K27
open PySem L2 DL
/-! stages: neighbours, nearer and nearer -/
theorem mp_app : ∀ {X Y : List Int}, (mp (X ++ Y)).1 = ((mp X).1.1 * (mp Y).1.1 + (mp X).2.1 * (mp Y).1.2, (mp X).1.2 * (mp Y).1.1 + (mp X).2.2 * (mp Y).1.2)
  | [], Y => by
    simp [mp]
  | a :: X, Y => by
    rw [List.cons_append, mp_cons, mp_cons, mp_app (X := X) (Y := Y)]
    generalize (mp X).1.1 = p
    generalize (mp X).1.2 = q
    generalize (mp X).2.1 = r
    generalize (mp X).2.2 = s
    generalize (mp Y).1.1 = u
    generalize (mp Y).1.2 = v
    simp only [Prod.mk.injEq]
    grind
theorem tI_drop : ∀ (j o u : Nat), j + 1 ≤ (tI o u).length → ∃ x y, (tI o u).drop (j + 1) = tI x y ∧ y < x := by
  intro j
  induction j with
  | zero =>
    intro o u h
    have hu : 0 < u := by
      by_cases h0 : 0 < u
      · exact h0
      · have : u = 0 := by omega
        subst this
        rw [tI_zero] at h
        exact absurd h (by decide)
    rw [tI_pos hu]
    exact ⟨u, o % u, rfl, Nat.mod_lt _ hu⟩
  | succ j ih =>
    intro o u h
    have hu : 0 < u := by
      by_cases h0 : 0 < u
      · exact h0
      · have : u = 0 := by omega
        subst this
        rw [tI_zero] at h
        exact absurd h (by simp)
    rw [tI_pos hu] at h ⊢
    exact ih u (o % u) (by simpa using h)
theorem tI_lt {x y : Nat} (h : y < x) : (mp (tI x y)).1.2 < (mp (tI x y)).1.1 := by
  obtain ⟨g, h1, h2⟩ := mp_val y x
  have hg : (g : Int) * (mp (tI x y)).1.2 < g * (mp (tI x y)).1.1 := by rw [← h1, ← h2]; omega
  exact Int.lt_of_mul_lt_mul_left hg (by omega)
section
variable {r : Int × Int}
abbrev cv (r : Int × Int) (k : Nat) : Int × Int := (mp ((tr r).take (k + 1))).1
theorem cv_gap (hr : Rt r) {k : Nat} : gp (cv r k) r = (mp ((tr r).drop (k + 1))).1.2 := by
  have e : r = (mp ((tr r).take (k + 1) ++ (tr r).drop (k + 1))).1 := by rw [List.take_append_drop, tr_mp hr]
  rw [mp_app] at e
  have hd := mp_det ((tr r).take (k + 1))
  have nn : 0 ≤ (mp ((tr r).drop (k + 1))).1.2 := (mp_nn fun x hx => (tr_row hr).nn x (List.mem_of_mem_drop hx)).2.1
  have e1 := congrArg Prod.fst e
  have e2 := congrArg Prod.snd e
  unfold gp cv
  simp only at e1 e2
  rw [e1, e2]
  generalize (mp ((tr r).take (k + 1))).1.1 = p at *
  generalize (mp ((tr r).take (k + 1))).1.2 = q at *
  generalize (mp ((tr r).take (k + 1))).2.1 = w at *
  generalize (mp ((tr r).take (k + 1))).2.2 = s at *
  generalize (mp ((tr r).drop (k + 1))).1.1 = u at *
  generalize (mp ((tr r).drop (k + 1))).1.2 = v at *
  have : p * (q * u + s * v) - (p * u + w * v) * q = v * (p * s - w * q) := by grind
  rw [this]
  rcases hd with hd | hd <;> rw [hd] <;> omega
theorem cv_next (hr : Rt r) {k : Nat} (hk : k + 1 < (tr r).length) : gp (cv r (k + 1)) r < gp (cv r k) r := by
  rw [cv_gap hr, cv_gap hr]
  obtain ⟨x, y, e, hlt⟩ := tI_drop (k + 1) r.1.toNat r.2.toNat (by show k + 1 + 1 ≤ (tr r).length; omega)
  have e : (tr r).drop (k + 1 + 1) = tI x y := e
  have ec : (tr r).drop (k + 1) = (tr r)[k + 1] :: (tr r).drop (k + 1 + 1) := List.drop_eq_getElem_cons hk
  have e3 : (mp ((tr r).drop (k + 1))).1.2 = (mp ((tr r).drop (k + 1 + 1))).1.1 := by
    rw [ec, mp_cons]
  rw [e3, e]
  exact tI_lt hlt
theorem cv_in (hr : Rt r) {k : Nat} : (cv r k).1 ≤ r.1 ∧ (cv r k).2 ≤ r.2 ∧ 1 ≤ (cv r k).2 ∧ Int.gcd (cv r k).1 (cv r k).2 = 1 := by
  have row := tr_row hr
  have e : (mp ((tr r).take (k + 1) ++ (tr r).drop (k + 1))).1 = r := by rw [List.take_append_drop, tr_mp hr]
  have h2 : ∀ x ∈ (tr r).drop (k + 1), 1 ≤ x := fun x hx => row.tl x (by
    rw [← List.drop_one]
    rw [show k + 1 = 1 + k by omega, ← List.drop_drop] at hx
    exact List.mem_of_mem_drop hx)
  obtain ⟨m1, m2⟩ := mp_mono (l2 := (tr r).drop (k + 1)) (l := (tr r).take (k + 1)) (fun x hx => row.nn x (List.mem_of_mem_take hx)) h2
  rw [e] at m1 m2
  exact ⟨m1, m2, (row.take k).under, mp_gcd _⟩
theorem cv_under (hr : Rt r) {k : Nat} (hk : k + 1 < (tr r).length) : (cv r k).2 ≤ (cv r (k + 1)).2 := by
  have row := tr_row hr
  have e : (tr r).take (k + 1 + 1) = (tr r).take (k + 1) ++ [(tr r)[k + 1]] := by
    rw [List.take_add_one, List.getElem?_eq_getElem hk]
    rfl
  have h2 : ∀ x ∈ [(tr r)[k + 1]], 1 ≤ x := fun x hx => by
    rw [List.mem_singleton.mp hx]
    refine row.tl _ ?_
    have e2 : (tr r)[k + 1] = (tr r).tail[k]'(by rw [List.length_tail]; omega) := by rw [List.getElem_tail]
    rw [e2]
    exact List.getElem_mem _
  obtain ⟨_, m2⟩ := mp_mono (l2 := [(tr r)[k + 1]]) (l := (tr r).take (k + 1)) (fun x hx => row.nn x (List.mem_of_mem_take hx)) h2
  show (mp ((tr r).take (k + 1))).1.2 ≤ (mp ((tr r).take (k + 1 + 1))).1.2
  rw [e]
  exact m2
theorem cv_det (hr : Rt r) {k : Nat} (hk : k + 1 < (tr r).length) : (cv r k).1 * (cv r (k + 1)).2 - (cv r (k + 1)).1 * (cv r k).2 = 1 ∨ (cv r k).1 * (cv r (k + 1)).2 - (cv r (k + 1)).1 * (cv r k).2 = -1 := by
  have e : (tr r).take (k + 1 + 1) = (tr r).take (k + 1) ++ [(tr r)[k + 1]] := by
    rw [List.take_add_one, List.getElem?_eq_getElem hk]
    rfl
  have hd := mp_det ((tr r).take (k + 1 + 1))
  have e2 : (mp ((tr r).take (k + 1 + 1))).2 = (mp ((tr r).take (k + 1))).1 := by rw [e, mp_snoc]
  rw [e2] at hd
  unfold cv
  generalize (mp ((tr r).take (k + 1))).1.1 = p at *
  generalize (mp ((tr r).take (k + 1))).1.2 = q at *
  generalize (mp ((tr r).take (k + 1 + 1))).1.1 = w at *
  generalize (mp ((tr r).take (k + 1 + 1))).1.2 = s at *
  omega
/-- the first stage may be 0 / 1, which is left out -/
theorem st_get (hr : Rt r) : ∃ δ : Nat, ∀ (i : Nat) (f : Int × Int), (st (tr r))[i]? = some f → i + δ < (tr r).length ∧ f = cv r (i + δ) ∧ 1 ≤ f.1 := by
  have row := tr_row hr
  obtain ⟨n, hn⟩ : ∃ n, (tr r).length = n + 1 := ⟨(tr r).length - 1, by have := List.length_pos_iff.mpr row.ne; omega⟩
  have ep : pfx (tr r) (tr r).length = cv r 0 :: (List.range n).map fun k => cv r (k + 1) := by
    unfold pfx
    rw [hn, List.range_succ_eq_map, List.map_cons, List.map_map]
    rfl
  have pos : ∀ k, k + 1 < (tr r).length → 0 < (cv r (k + 1)).1 := fun k hk => (row.take (k + 1)).over.mpr fun e => by
    have := congrArg List.length e
    rw [List.length_take] at this
    simp at this
    omega
  have er : ((List.range n).map fun k => cv r (k + 1)).filter (fun q => decide (0 < q.1)) = (List.range n).map fun k => cv r (k + 1) := by
    rw [List.filter_eq_self]
    intro q hq
    obtain ⟨k, hk, rfl⟩ := List.mem_map.mp hq
    have := List.mem_range.mp hk
    exact decide_eq_true (pos k (by omega))
  have es : st (tr r) = (if 0 < (cv r 0).1 then [cv r 0] else []) ++ (List.range n).map fun k => cv r (k + 1) := by
    unfold st
    rw [ep, List.filter_cons, er]
    by_cases h : 0 < (cv r 0).1
    · rw [if_pos (decide_eq_true h), if_pos h]
      rfl
    · rw [if_neg (by simpa using h), if_neg h]
      rfl
  have sec : ∀ (i : Nat) (f : Int × Int), ((List.range n).map fun k => cv r (k + 1))[i]? = some f → i + 1 < (tr r).length ∧ f = cv r (i + 1) ∧ 1 ≤ f.1 := fun i f h => by
    rw [List.getElem?_map, Option.map_eq_some_iff] at h
    obtain ⟨k, hk, rfl⟩ := h
    have hkl := (List.getElem?_eq_some_iff.mp hk).1
    rw [List.length_range] at hkl
    rw [List.getElem?_range hkl] at hk
    injection hk with hk
    subst hk
    have := pos i (by omega)
    exact ⟨by omega, rfl, by omega⟩
  by_cases h : 0 < (cv r 0).1
  · rw [if_pos h] at es
    refine ⟨0, fun i f hf => ?_⟩
    rw [es] at hf
    cases i with
    | zero =>
      have hf : some (cv r 0) = some f := hf
      injection hf with hf
      subst hf
      exact ⟨by omega, rfl, by omega⟩
    | succ i => exact sec i f hf
  · rw [if_neg h] at es
    refine ⟨1, fun i f hf => ?_⟩
    rw [es] at hf
    exact sec i f hf
theorem stage_two (hr : Rt r) (b1 : r.1 ≤ 120) (b2 : r.2 ≤ 120) {k : Nat} {f g : Int × Int} (h1 : (st (tr r))[k]? = some f) (h2 : (st (tr r))[k + 1]? = some g) :
    Bd 120 f ∧ Bd 120 g ∧ (f.1 * g.2 - g.1 * f.2 = 1 ∨ f.1 * g.2 - g.1 * f.2 = -1) ∧ blw (gpF g r) (gpF f r) = true := by
  obtain ⟨δ, hδ⟩ := st_get hr
  obtain ⟨l1, e1, o1⟩ := hδ _ _ h1
  obtain ⟨l2, e2, o2⟩ := hδ _ _ h2
  have ek : k + 1 + δ = k + δ + 1 := by omega
  rw [ek] at l2 e2
  obtain ⟨c1, c2, c3, c4⟩ := cv_in hr (k := k + δ)
  obtain ⟨d1, d2, d3, d4⟩ := cv_in hr (k := k + δ + 1)
  have hu := cv_under hr l2
  have hg := cv_next hr l2
  have hd := cv_det hr l2
  rw [← e1] at c1 c2 c3 c4 hu hg hd
  rw [← e2] at d1 d2 d3 d4 hu hg hd
  refine ⟨⟨o1, by omega, c3, by omega, c4⟩, ⟨o2, by omega, d3, by omega, d4⟩, hd, ?_⟩
  have r2 := hr.b1
  unfold gpF
  rw [blw_cross (Int.mul_pos (by omega) (by omega)) (Int.mul_pos (by omega) (by omega))]
  refine decide_eq_true ?_
  have k1 : gp g r * (f.2 * r.2) < gp f r * (f.2 * r.2) := Int.mul_lt_mul_of_pos_right hg (Int.mul_pos (by omega) (by omega))
  have k2 : gp f r * (f.2 * r.2) ≤ gp f r * (g.2 * r.2) := Int.mul_le_mul_of_nonneg_left (Int.mul_le_mul_of_nonneg_right hu (by omega)) gp_nn
  omega
end
end K27
set_option Elab.async false
set_option linter.all false
set_option maxRecDepth 100000
set_option maxHeartbeats 2000000
namespace K27
open PySem L2 DL
section
variable {C : CA} {S : SS} {P : D → SS → Prop} {X : XQ} {Y : Sl → XQ} {Pn : Sl → SS → Prop}
/-! parents -/
theorem bdB_yes {m : Int} {p : Int × Int} (h : Bd m p) : bdB m (pr p) = true := bdB_pr.mpr h
theorem nat_of {i : Int} (h : 0 ≤ i) : ∃ n : Nat, i = nI n ∧ (n : Int) = i := ⟨i.toNat, by rw [nI_eq]; omega, by omega⟩
theorem parents_sat {p : Int × Int} (h : Bd 120 p) (k : ∀ x y l, x.1 + y.1 = p.1 → x.2 + y.2 = p.2 → P (.tup [pr x, pr y]) (S ++ l)) : Sat (F_parents C [pr p] S) P := by
  have a1 := h.a1; have a2 := h.a2; have b1 := h.b1; have b2 := h.b2
  rw [sem_parents]
  refine XSat.s (x_fn ?_)
  unfold B_parents
  simp only [startD, List.getElem?_cons_succ, List.getElem?_cons_zero, List.set_cons_succ, List.set_cons_zero, List.length_cons, List.length_nil, List.map_cons, List.map_nil, List.cons_append, List.nil_append, List.replicate, Nat.reduceAdd, Nat.zero_add, true_and]
  rw [x_seq, x_if]
  simp only [xt_not, xt_tru, xe_call, xa_cons, xa_nil, xe_var, xe_c, List.getElem?_cons_succ, List.getElem?_cons_zero, List.set_cons_succ, List.set_cons_zero, List.length_cons, List.length_nil, List.map_cons, List.map_nil, List.cons_append, List.nil_append, List.replicate, Nat.reduceAdd, Nat.zero_add, true_and]
  refine (is_bounded_sat rfl fun l => ?_).x
  rw [bdB_yes h]
  simp only [tru_bl, Bool.not_true, Bool.false_eq_true, if_false, x_nil]
  rw [x_seq, x_asgN]
  simp only [xe_var, bind_many2, List.getElem?_cons_succ, List.getElem?_cons_zero, List.set_cons_succ, List.set_cons_zero, List.length_cons, List.length_nil, List.map_cons, List.map_nil, List.cons_append, List.nil_append, List.replicate, Nat.reduceAdd, Nat.zero_add, true_and]
  rw [x_seq, x_if]
  simp only [xt_val, xe_op2, xe_var, xe_c, eq_int, boolOf_bl, List.getElem?_cons_succ, List.getElem?_cons_zero, List.set_cons_succ, List.set_cons_zero, List.length_cons, List.length_nil, List.map_cons, List.map_nil, List.cons_append, List.nil_append, List.replicate, Nat.reduceAdd, Nat.zero_add, true_and]
  by_cases h1 : (p.2 == 1) = true
  · rw [if_pos h1, x_seq, x_ret]
    simp only [xe_tup2, xe_op2, xe_var, xe_c, so_sub, List.getElem?_cons_succ, List.getElem?_cons_zero, List.set_cons_succ, List.set_cons_zero, List.length_cons, List.length_nil, List.map_cons, List.map_nil, List.cons_append, List.nil_append, List.replicate, Nat.reduceAdd, Nat.zero_add, true_and]
    have h1 : p.2 = 1 := by simpa using h1
    exact k (p.1 - 1, 1) (1, 0) l (by show p.1 - 1 + 1 = p.1; omega) (by show (1 : Int) + 0 = p.2; omega)
  · rw [if_neg h1, x_nil, x_seq, x_asg1, xe_op2]
    obtain ⟨n, hn, hn'⟩ := nat_of (show 0 ≤ p.2 by omega)
    obtain ⟨z, z1, z2, z3⟩ := rest_ex (s := 1) (lo := 0) (by omega) b1 h.co
    refine lc_filtN (n := n) (f := fun i => .int (nI i)) (g := fun i => .int (nI i)) (c := fun i => decide ((p.1 * nI i - 1) % p.2 = 0)) (hit_rngN (by omega) fun Q h => by simp only [xa_cons, xa_nil, xe_var, List.getElem?_cons_succ, List.getElem?_cons_zero, List.set_cons_succ, List.set_cons_zero, List.length_cons, List.length_nil, List.map_cons, List.map_nil, List.cons_append, List.nil_append, List.replicate, Nat.reduceAdd, Nat.zero_add, true_and]; rw [hn]; exact h) (fun i hi => ⟨_, rfl, fun l0 Q kk => ?_, fun l0 Q _ kk => ?_⟩) (by omega) fun l' => ?_
    · have hi' : nI i < 120 := by rw [nI_eq]; omega
      have hi0 : 0 ≤ nI i := by rw [nI_eq]; omega
      simp only [wipeD, xt_val, xe_op2, xe_var, xe_c, so_mul, so_sub, so_mod, eq_int, List.getElem?_cons_succ, List.getElem?_cons_zero, List.set_cons_succ, List.set_cons_zero, List.length_cons, List.length_nil, List.map_cons, List.map_nil, List.cons_append, List.nil_append, List.replicate, Nat.reduceAdd, Nat.zero_add, true_and]
      refine ⟨mulOk64 (by omega) (by omega), by omega, ?_⟩
      rw [fmod_pos (by omega)]
      have e : ((p.1 * nI i - 1) % p.2 == 0) = decide ((p.1 * nI i - 1) % p.2 = 0) := rfl
      rw [e]
      have := kk []
      rwa [List.append_nil] at this
    · simp only [wipeD, xe_var, List.getElem?_cons_succ, List.getElem?_cons_zero, List.set_cons_succ, List.set_cons_zero, List.length_cons, List.length_nil, List.map_cons, List.map_nil, List.cons_append, List.nil_append, List.replicate, Nat.reduceAdd, Nat.zero_add, true_and]
      have := kk []
      rwa [List.append_nil] at this
    · obtain ⟨m, hf⟩ : ∃ m, (List.range n).find? (fun i => decide ((p.1 * nI i - 1) % p.2 = 0)) = some m := by
        cases hf : (List.range n).find? (fun i => decide ((p.1 * nI i - 1) % p.2 = 0)) with
        | some m => exact ⟨m, rfl⟩
        | none =>
          rw [List.find?_eq_none] at hf
          have := hf z.toNat (List.mem_range.mpr (by omega))
          have e : nI z.toNat = z := by rw [nI_eq]; omega
          rw [e, decide_eq_true z3] at this
          exact absurd rfl this
      have hm := List.mem_range.mp (List.mem_of_find?_eq_some hf)
      have hm' : 0 ≤ nI m ∧ nI m < 120 := by rw [nI_eq]; omega
      rw [xe_c, so_ixL0 get_mid (filter_get0 hf)]
      rw [x_seq, x_asg1]
      simp only [xe_tup2, xe_op2, xe_var, xe_c, so_mul, so_sub, so_fdiv, List.getElem?_cons_succ, List.getElem?_cons_zero, List.set_cons_succ, List.set_cons_zero, List.length_cons, List.length_nil, List.map_cons, List.map_nil, List.cons_append, List.nil_append, List.replicate, Nat.reduceAdd, Nat.zero_add, true_and]
      have hb := Int.mul_le_mul (show p.1 ≤ 120 by omega) (show nI m ≤ 120 by omega) (by omega) (by omega)
      have hb0 := Int.mul_nonneg (show 0 ≤ p.1 by omega) hm'.1
      refine ⟨mulOk64 (by omega) (by omega), divOk64 (by omega) (by omega), ?_⟩
      rw [x_seq, x_ret]
      simp only [xe_tup2, xe_op2, xe_var, xe_c, so_ix0, so_sub, List.getElem?_cons_succ, List.getElem?_cons_zero, List.set_cons_succ, List.set_cons_zero, List.length_cons, List.length_nil, List.map_cons, List.map_nil, List.cons_append, List.nil_append, List.replicate, Nat.reduceAdd, Nat.zero_add, true_and]
      rw [List.append_assoc]
      exact k ((p.1 * nI m - 1).fdiv p.2, nI m) (p.1 - (p.1 * nI m - 1).fdiv p.2, p.2 - nI m) _ (by show _ + (p.1 - _) = _; omega) (by show nI m + (p.2 - nI m) = p.2; omega)
theorem are_nb_sat {p g : Int × Int} (hp : Bd 120 p) (hg : Bd 120 g) (k : ∀ l, P (.bl (decide ((p.1 * g.2 - g.1 * p.2).natAbs = 1))) (S ++ l)) : Sat (F_are_neighbours C [pr p, pr g] S) P := by
  have a1 := hp.a1; have a2 := hp.a2; have b1 := hp.b1; have b2 := hp.b2
  have c1 := hg.a1; have c2 := hg.a2; have d1 := hg.b1; have d2 := hg.b2
  rw [sem_are_neighbours]
  refine XSat.s (x_fn ?_)
  unfold B_are_neighbours
  simp only [startD, List.getElem?_cons_succ, List.getElem?_cons_zero, List.set_cons_succ, List.set_cons_zero, List.length_cons, List.length_nil, List.map_cons, List.map_nil, List.cons_append, List.nil_append, List.replicate, Nat.reduceAdd, Nat.zero_add, true_and]
  rw [x_seq]
  refine x_for ?_
  simp only [xit_val, xe_tup2, xe_var, xe_c, iterD, List.getElem?_cons_succ, List.getElem?_cons_zero, List.set_cons_succ, List.set_cons_zero, List.length_cons, List.length_nil, List.map_cons, List.map_nil, List.cons_append, List.nil_append, List.replicate, Nat.reduceAdd, Nat.zero_add, true_and]
  refine ⟨fun j δ S' => ∃ l o2 o3, S' = S ++ l ∧ δ = [some (pr p), some (pr g), o2, o3], ⟨[], none, none, by simp, rfl⟩, ?_, ?_⟩
  · rintro j d δ S' hj ⟨l, o2, o3, rfl, rfl⟩
    have hd : ∃ f x, d = .tup [pr f, .str x] ∧ Bd 120 f := by
      have := List.mem_of_getElem? hj
      simp only [List.mem_cons, List.not_mem_nil, or_false] at this
      rcases this with rfl | rfl
      · exact ⟨p, _, rfl, hp⟩
      · exact ⟨g, _, rfl, hg⟩
    obtain ⟨f, x, rfl, hf⟩ := hd
    refine ⟨trivial, _, bind_many2, ?_⟩
    simp only [List.getElem?_cons_succ, List.getElem?_cons_zero, List.set_cons_succ, List.set_cons_zero, List.length_cons, List.length_nil, List.map_cons, List.map_nil, List.cons_append, List.nil_append, List.replicate, Nat.reduceAdd, Nat.zero_add, true_and]
    rw [x_seq, x_if]
    simp only [xt_not, xt_tru, xe_call, xa_cons, xa_nil, xe_var, xe_c, List.getElem?_cons_succ, List.getElem?_cons_zero, List.set_cons_succ, List.set_cons_zero, List.length_cons, List.length_nil, List.map_cons, List.map_nil, List.cons_append, List.nil_append, List.replicate, Nat.reduceAdd, Nat.zero_add, true_and]
    refine (is_bounded_sat rfl fun l => ?_).x
    rw [bdB_yes hf]
    simp only [tru_bl, Bool.not_true, Bool.false_eq_true, if_false, x_nil]
    exact ⟨_, _, _, by rw [List.append_assoc], rfl⟩
  · rintro δ S' ⟨l, o2, o3, rfl, rfl⟩
    refine ⟨trivial, ?_⟩
    rw [x_seq, x_ret]
    simp only [xe_op2, xe_cb, xa_cons, xa_nil, xe_var, xe_c, so_ix0, so_ix1, so_mul, so_sub, List.getElem?_cons_succ, List.getElem?_cons_zero, List.set_cons_succ, List.set_cons_zero, List.length_cons, List.length_nil, List.map_cons, List.map_nil, List.cons_append, List.nil_append, List.replicate, Nat.reduceAdd, Nat.zero_add, true_and]
    refine ⟨mulOk64 (by omega) (by omega), mulOk64 (by omega) (by omega), ?_⟩
    rw [so_abs, eq_int]
    have e : ((if p.1 * g.2 - g.1 * p.2 < 0 then -(p.1 * g.2 - g.1 * p.2) else p.1 * g.2 - g.1 * p.2) == 1) = decide ((p.1 * g.2 - g.1 * p.2).natAbs = 1) := by
      rw [absI, Bool.eq_iff_iff, beq_iff_eq, decide_eq_true_eq]
      omega
    rw [e]
    exact k l
end
end K27
set_option Elab.async false
set_option linter.all false
set_option maxRecDepth 100000
set_option maxHeartbeats 2000000
namespace K27
open PySem L2 DL
section
variable {C : CA} {S : SS} {P : D → SS → Prop} {X : XQ} {Y : Sl → XQ} {Pn : Sl → SS → Prop}
/-! the row of all parts -/
theorem demand_bound_sat {m : Int} (h1 : 1 ≤ m) (h2 : m ≤ 120) (k : P .non S) : Sat (F_demand_bound C [.int m] S) P := by
  rw [sem_demand_bound]
  refine XSat.s (x_fn ?_)
  unfold B_demand_bound
  simp only [startD, List.getElem?_cons_succ, List.getElem?_cons_zero, List.set_cons_succ, List.set_cons_zero, List.length_cons, List.length_nil, List.map_cons, List.map_nil, List.cons_append, List.nil_append, List.replicate, Nat.reduceAdd, Nat.zero_add, true_and]
  rw [x_seq, x_if]
  simp only [xt_not, xt_tru, xe_call, xa_cons, xa_nil, xe_var, xe_c, List.getElem?_cons_succ, List.getElem?_cons_zero, List.set_cons_succ, List.set_cons_zero, List.length_cons, List.length_nil, List.map_cons, List.map_nil, List.cons_append, List.nil_append, List.replicate, Nat.reduceAdd, Nat.zero_add, true_and]
  refine (in_range_sat rfl ?_).x
  rw [isR_of h1 h2]
  simp only [tru_bl, Bool.not_true, Bool.false_eq_true, if_false, x_nil]
  exact k
theorem demand_part_sat {m : Int} {p : Int × Int} (h : Bd m p) (hle : p.1 ≤ p.2) (k : ∀ l, P .non (S ++ l)) : Sat (F_demand_part C [.int m, pr p] S) P := by
  rw [sem_demand_part]
  refine XSat.s (x_fn ?_)
  unfold B_demand_part
  simp only [startD, List.getElem?_cons_succ, List.getElem?_cons_zero, List.set_cons_succ, List.set_cons_zero, List.length_cons, List.length_nil, List.map_cons, List.map_nil, List.cons_append, List.nil_append, List.replicate, Nat.reduceAdd, Nat.zero_add, true_and]
  rw [x_seq, x_if]
  simp only [xt_not, xt_tru, xe_call, xa_cons, xa_nil, xe_var, xe_c, List.getElem?_cons_succ, List.getElem?_cons_zero, List.set_cons_succ, List.set_cons_zero, List.length_cons, List.length_nil, List.map_cons, List.map_nil, List.cons_append, List.nil_append, List.replicate, Nat.reduceAdd, Nat.zero_add, true_and]
  rw [sem_is_part]
  refine x_fn ?_
  unfold B_is_part
  simp only [startD, List.getElem?_cons_succ, List.getElem?_cons_zero, List.set_cons_succ, List.set_cons_zero, List.length_cons, List.length_nil, List.map_cons, List.map_nil, List.cons_append, List.nil_append, List.replicate, Nat.reduceAdd, Nat.zero_add, true_and]
  rw [x_seq, x_ret]
  simp only [xe_and, xe_call, xa_cons, xa_nil, xe_var, List.getElem?_cons_succ, List.getElem?_cons_zero, List.set_cons_succ, List.set_cons_zero, List.length_cons, List.length_nil, List.map_cons, List.map_nil, List.cons_append, List.nil_append, List.replicate, Nat.reduceAdd, Nat.zero_add, true_and]
  refine (is_bounded_sat rfl fun l => ?_).x
  rw [bdB_yes h]
  simp only [tru_bl, if_true, xe_op2, xe_var, xe_c, so_ix0, so_ix1, so_le, List.getElem?_cons_succ, List.getElem?_cons_zero, List.set_cons_succ, List.set_cons_zero, List.length_cons, List.length_nil, List.map_cons, List.map_nil, List.cons_append, List.nil_append, List.replicate, Nat.reduceAdd, Nat.zero_add, true_and]
  rw [decide_eq_true hle]
  simp only [tru_bl, Bool.not_true, Bool.false_eq_true, if_false, x_nil]
  exact k l
theorem rng3_eq {i j c : Int} (h : c ≠ 0 ∧ c.natAbs < 1073741824 ∧ Builtin.Range.small i j c = true ∧ 0 ≤ Builtin.Range.rangeSize i j c) : rng3D [.int i, .int j, .int c] S = some (rngItems i (Builtin.Range.rangeSize i j c).toNat c, []) := if_pos h
theorem size_back {i : Int} (h : 0 ≤ i) : Builtin.Range.rangeSize i 0 (-1) = i := by
  unfold Builtin.Range.rangeSize
  simp
  omega
theorem rng3_back {i : Int} {n : Nat} (hi : i = (n : Int)) (hn : i ≤ 1000000) : rng3D [.int i, .int 0, .int (-1)] S = some (rngItems i n (-1), []) := by
  have h0 : 0 ≤ i := by omega
  rw [rng3_eq]
  · rw [size_back h0]
    have : i.toNat = n := by omega
    rw [this]
  · refine ⟨by decide, by decide, ?_, by rw [size_back h0]; exact h0⟩
    unfold Builtin.Range.small
    rw [size_back h0]
    simp [Builtin.Range.rangeFitsLong]
    omega
theorem hit_back {δ : Sl} {a : PAs} {n : Nat} (hn : n ≤ 1000000) (h : ∀ Q : List D → SS → Prop, Q [.int (nI n), .int 0, .int (-1)] S → XSat (a δ S) Q noX) : XSat (iOn rng3D a δ S) (fun x S1 => (∀ l, gOk x.2 (S ++ l)) ∧ S1 = S ∧ x.1 = (List.range n).map fun i => D.int (nI n - nI i)) noX := by
  rw [xit_on]
  refine h _ ?_
  have hr := rng3_back (S := S) (i := nI n) (n := n) nI_eq (by rw [nI_eq]; omega)
  rw [hr]
  refine ⟨fun l => trivial, rfl, ?_⟩
  unfold rngItems
  refine List.map_congr_left fun i _ => ?_
  rw [nI_eq (n := i)]
  congr 1
  omega
theorem next_part_sat {m a b c d : Int} (h : Nx m a b c d) (hm : m ≤ 120) (k : ∀ l, P (pr (c, d)) (S ++ l)) : Sat (F_next_part C [.int m, pr (a, b)] S) P := by
  have a1 := h.a1; have ab := h.ab; have bm := h.bm; have d1 := h.d1; have dm := h.dm; have hf := h.f
  have co : Int.gcd a b = 1 := det_gcd h.det
  have hb : Bd m (a, b) := ⟨a1, by show a ≤ m; omega, by show 1 ≤ b; omega, bm, co⟩
  rw [sem_next_part]
  refine XSat.s (x_fn ?_)
  unfold B_next_part
  simp only [startD, List.getElem?_cons_succ, List.getElem?_cons_zero, List.set_cons_succ, List.set_cons_zero, List.length_cons, List.length_nil, List.map_cons, List.map_nil, List.cons_append, List.nil_append, List.replicate, Nat.reduceAdd, Nat.zero_add, true_and]
  rw [x_seq, x_drop]
  simp only [xe_call, xa_cons, xa_nil, xe_var, List.getElem?_cons_succ, List.getElem?_cons_zero, List.set_cons_succ, List.set_cons_zero, List.length_cons, List.length_nil, List.map_cons, List.map_nil, List.cons_append, List.nil_append, List.replicate, Nat.reduceAdd, Nat.zero_add, true_and]
  refine (demand_bound_sat (by omega) hm ?_).x
  rw [x_seq, x_drop]
  simp only [xe_call, xa_cons, xa_nil, xe_var, List.getElem?_cons_succ, List.getElem?_cons_zero, List.set_cons_succ, List.set_cons_zero, List.length_cons, List.length_nil, List.map_cons, List.map_nil, List.cons_append, List.nil_append, List.replicate, Nat.reduceAdd, Nat.zero_add, true_and]
  refine (demand_part_sat hb (by show a ≤ b; omega) fun l => ?_).x
  rw [x_seq, x_if]
  simp only [xt_val, xe_op2, xe_var, xe_tup2, xe_c, List.getElem?_cons_succ, List.getElem?_cons_zero, List.set_cons_succ, List.set_cons_zero, List.length_cons, List.length_nil, List.map_cons, List.map_nil, List.cons_append, List.nil_append, List.replicate, Nat.reduceAdd, Nat.zero_add, true_and]
  have e1 : ∀ P : D → SS → Prop, SatO (cmpD .Eq (pr (a, b)) (.tup [.int 1, .int 1]) (S ++ l)) P = P (.bl (decide ((a, b) = ((1, 1) : Int × Int)))) (S ++ l) := fun P => eq_pr (b := (1, 1))
  have e2 : decide ((a, b) = ((1, 1) : Int × Int)) = false := decide_eq_false fun e => by
    have h1 := congrArg Prod.fst e
    have h2 := congrArg Prod.snd e
    simp only at h1 h2
    omega
  rw [e1, e2]
  simp only [boolOf_bl, Bool.false_eq_true, if_false, x_nil]
  rw [x_seq, x_asgN]
  simp only [xe_var, bind_many2, List.getElem?_cons_succ, List.getElem?_cons_zero, List.set_cons_succ, List.set_cons_zero, List.length_cons, List.length_nil, List.map_cons, List.map_nil, List.cons_append, List.nil_append, List.replicate, Nat.reduceAdd, Nat.zero_add, true_and]
  rw [x_seq, x_asg1, xe_op2]
  obtain ⟨n, hn, hn'⟩ := nat_of (show 0 ≤ m by omega)
  subst hn
  refine lc_filtN (n := n) (f := fun i => .int (nI n - nI i)) (g := fun i => .int (nI n - nI i)) (c := fun i => decide ((a * (nI n - nI i) + 1) % b = 0)) (hit_back (by omega) fun Q h => by simp only [xa_cons, xa_nil, xe_var, xe_op1, xe_c, so_neg, List.getElem?_cons_succ, List.getElem?_cons_zero, List.set_cons_succ, List.set_cons_zero, List.length_cons, List.length_nil, List.map_cons, List.map_nil, List.cons_append, List.nil_append, List.replicate, Nat.reduceAdd, Nat.zero_add, true_and]; exact h) (fun i hi => ⟨_, rfl, fun l0 Q kk => ?_, fun l0 Q _ kk => ?_⟩) (by omega) fun l' => ?_
  · have hi' : 0 ≤ nI i ∧ nI i < nI n := by rw [nI_eq, nI_eq]; omega
    simp only [wipeD, xt_val, xe_op2, xe_var, xe_c, so_mul, so_add, so_mod, eq_int, List.getElem?_cons_succ, List.getElem?_cons_zero, List.set_cons_succ, List.set_cons_zero, List.length_cons, List.length_nil, List.map_cons, List.map_nil, List.cons_append, List.nil_append, List.replicate, Nat.reduceAdd, Nat.zero_add, true_and]
    refine ⟨mulOk64 (by omega) (by omega), by omega, ?_⟩
    rw [fmod_pos (by omega)]
    have e : ((a * (nI n - nI i) + 1) % b == 0) = decide ((a * (nI n - nI i) + 1) % b = 0) := rfl
    rw [e]
    have := kk []
    rwa [List.append_nil] at this
  · simp only [wipeD, xe_var, List.getElem?_cons_succ, List.getElem?_cons_zero, List.set_cons_succ, List.set_cons_zero, List.length_cons, List.length_nil, List.map_cons, List.map_nil, List.cons_append, List.nil_append, List.replicate, Nat.reduceAdd, Nat.zero_add, true_and]
    have := kk []
    rwa [List.append_nil] at this
  · have hd0 : (a * d + 1) % b = 0 := by
      have : a * d + 1 = b * c := by have := h.det; grind
      rw [this]
      exact Int.mul_emod_right _ _
    have enm : nI n - nI (n - d.toNat) = d := by rw [nI_eq, nI_eq]; rw [nI_eq] at dm; omega
    have hf : (List.range n).find? (fun i => decide ((a * (nI n - nI i) + 1) % b = 0)) = some (n - d.toNat) := by
      refine find_range (by rw [nI_eq] at dm; omega) (fun i hi => decide_eq_false fun e => ?_) (by rw [enm]; exact decide_eq_true hd0)
      have dv : b ∣ (nI n - nI i) - d := rest_uniq (s := -1) (by omega) co (by rw [Int.sub_neg]; exact e) (by rw [Int.sub_neg]; exact hd0)
      have hlt : 0 < (nI n - nI i) - d := by rw [nI_eq, nI_eq]; omega
      have := Int.le_of_dvd hlt dv
      have : 0 ≤ nI i := by rw [nI_eq]; omega
      omega
    rw [xe_c, so_ixL0 get_mid (filter_get0 hf), enm]
    rw [x_seq, x_ret]
    simp only [xe_tup2, xe_op2, xe_var, xe_c, so_mul, so_add, so_fdiv, List.getElem?_cons_succ, List.getElem?_cons_zero, List.set_cons_succ, List.set_cons_zero, List.length_cons, List.length_nil, List.map_cons, List.map_nil, List.cons_append, List.nil_append, List.replicate, Nat.reduceAdd, Nat.zero_add, true_and]
    refine ⟨mulOk64 (by omega) (by omega), divOk64 (by omega) (by omega), ?_⟩
    have ec : (a * d + 1).fdiv b = c := by
      have : a * d + 1 = b * c := by have := h.det; grind
      rw [this, fdiv_pos (by omega), Int.mul_ediv_cancel_left _ (by omega)]
    rw [ec, List.append_assoc]
    exact k _
end
end K27
set_option Elab.async false
set_option linter.all false
set_option maxRecDepth 100000
set_option maxHeartbeats 2000000
namespace K27
open PySem L2 DL
section
variable {C : CA} {S : SS} {P : D → SS → Prop} {X : XQ} {Y : Sl → XQ} {Pn : Sl → SS → Prop}
theorem lft_le {m : Int} (h : 1 ≤ m) (h2 : m ≤ 120) : lft m 1 m ≤ 14400 := by
  unfold lft
  have : m * m * (m - 1) / m = m * (m - 1) := by
    rw [Int.mul_assoc, Int.mul_ediv_cancel_left _ (by omega)]
  rw [this]
  have := Int.mul_le_mul (show m ≤ 120 by omega) (show m - 1 ≤ 120 by omega) (by omega) (by omega)
  omega
theorem all_parts_sat {m c d : Int} (h1 : 1 ≤ m) (h2 : m ≤ 120) (hc : Bd m (c, d)) (hcd : c ≤ d) (k : ∀ (fs : List (Int × Int)) (l : SS), (c, d) ∈ fs → fs.length ≤ 20000 → P (.tup (fs.map pr)) (S ++ l)) : Sat (F_all_parts C [.int m]  S) P := by
  have c1 : 1 ≤ c := hc.a1
  have d1 : 1 ≤ d := hc.b1
  have dm : d ≤ m := hc.b2
  rw [sem_all_parts]
  refine XSat.s (x_fn ?_)
  unfold B_all_parts
  simp only [startD, List.getElem?_cons_succ, List.getElem?_cons_zero, List.set_cons_succ, List.set_cons_zero, List.length_cons, List.length_nil, List.map_cons, List.map_nil, List.cons_append, List.nil_append, List.replicate, Nat.reduceAdd, Nat.zero_add, true_and]
  rw [x_seq, x_drop]
  simp only [xe_call, xa_cons, xa_nil, xe_var, List.getElem?_cons_succ, List.getElem?_cons_zero, List.set_cons_succ, List.set_cons_zero, List.length_cons, List.length_nil, List.map_cons, List.map_nil, List.cons_append, List.nil_append, List.replicate, Nat.reduceAdd, Nat.zero_add, true_and]
  refine (demand_bound_sat h1 h2 ?_).x
  rw [x_seq, x_asg1]
  simp only [xe_lst1, xe_tup2, xe_c, xe_var, List.getElem?_cons_succ, List.getElem?_cons_zero, List.set_cons_succ, List.set_cons_zero, List.length_cons, List.length_nil, List.map_cons, List.map_nil, List.cons_append, List.nil_append, List.replicate, Nat.reduceAdd, Nat.zero_add, true_and]
  rw [x_seq]
  have h0 : lft m 1 m ≤ 14400 := lft_le h1 h2
  refine x_while (fun mm δ S' => ∃ fs0 a b l, S' = S ++ .lst ((fs0 ++ [(a, b)]).map pr) :: l ∧ δ = [some (.int m), some (.ref S.length)] ∧ Bd m (a, b) ∧ a ≤ b ∧ mm = lft m a b ∧ fs0.length + mm ≤ lft m 1 m ∧ ((c, d) ∈ fs0 ++ [(a, b)] ∨ a * d < c * b)) (fun mm δ S' hI => ?_) (lft m 1 m) _ _ ⟨[], 1, m, [], rfl, rfl, ⟨by show (1 : Int) ≤ 1; decide, by show (1 : Int) ≤ m; omega, h1, Int.le_refl _, Int.one_gcd⟩, h1, rfl, by simp, ?_⟩
  · obtain ⟨fs0, a, b, l, rfl, rfl, hb, hab, rfl, hl, hin⟩ := hI
    have hm : ((fs0 ++ [(a, b)]).map pr) = fs0.map pr ++ [pr (a, b)] := by rw [List.map_append]; rfl
    have hg : (S ++ MO.lst ((fs0 ++ [(a, b)]).map pr) :: l)[S.length]? = some (.lst (fs0.map pr ++ [pr (a, b)])) := by rw [hm]; exact get_mid
    have a1 : 1 ≤ a := hb.a1
    have b1 : 1 ≤ b := hb.b1
    have bm : b ≤ m := hb.b2
    have co : Int.gcd a b = 1 := hb.co
    simp only [xt_val, xe_op2, xe_op1, xe_tup2, xe_var, xe_c, so_neg, so_lastL hg, List.getElem?_cons_succ, List.getElem?_cons_zero, List.set_cons_succ, List.set_cons_zero, List.length_cons, List.length_nil, List.map_cons, List.map_nil, List.cons_append, List.nil_append, List.replicate, Nat.reduceAdd, Nat.zero_add, true_and]
    have e1 : ∀ (S : SS) (P : D → SS → Prop), SatO (cmpD .NotEq (pr (a, b)) (.tup [.int 1, .int 1]) S) P = P (.bl (!decide ((a, b) = ((1, 1) : Int × Int)))) S := fun S P => ne_pr (b := (1, 1))
    rw [e1]
    simp only [boolOf_bl]
    by_cases he : (a, b) = ((1, 1) : Int × Int)
    · rw [decide_eq_true he]
      simp only [Bool.not_true, Bool.false_eq_true, if_false]
      rw [x_seq, x_ret]
      simp only [xe_cb, xa_cons, xa_nil, xe_var, List.getElem?_cons_succ, List.getElem?_cons_zero, List.set_cons_succ, List.set_cons_zero, List.length_cons, List.length_nil, List.map_cons, List.map_nil, List.cons_append, List.nil_append, List.replicate, Nat.reduceAdd, Nat.zero_add, true_and]
      rw [so_tupL (ds := (fs0 ++ [(a, b)]).map pr) get_mid]
      refine k _ _ ?_ ?_
      · rcases hin with hin | hin
        · exact hin
        · have ea := congrArg Prod.fst he
          have eb := congrArg Prod.snd he
          simp only at ea eb
          rw [ea, eb] at hin
          omega
      · rw [List.length_append]
        show fs0.length + 1 ≤ 20000
        omega
    · rw [decide_eq_false he]
      simp only [Bool.not_false, if_true]
      have hlt : a < b := by
        by_cases hc : a < b
        · exact hc
        · have : a = b := by omega
          subst this
          rw [Int.gcd_self] at co
          exact absurd (by rw [show a = 1 by omega]) he
      obtain ⟨c', d', hn⟩ := nx_ex hb hlt
      rw [x_seq]
      refine x_app (ds0 := fs0.map pr ++ [pr (a, b)]) rfl hg ?_
      simp only [xe_call, xe_op2, xe_op1, xa_cons, xa_nil, xe_var, xe_c, so_neg, so_lastL hg, List.getElem?_cons_succ, List.getElem?_cons_zero, List.set_cons_succ, List.set_cons_zero, List.length_cons, List.length_nil, List.map_cons, List.map_nil, List.cons_append, List.nil_append, List.replicate, Nat.reduceAdd, Nat.zero_add, true_and]
      refine (next_part_sat hn h2 fun l2 => ?_).x
      refine ⟨(fs0 ++ [(a, b)]).map pr, get_app get_mid, by simp; omega, ?_⟩
      rw [x_nil]
      have hlf := hn.lft
      refine ⟨lft m c' d', hlf, fs0 ++ [(a, b)], c', d', l ++ l2, ?_, rfl, hn.bd, hn.cd.2, rfl, by rw [List.length_append]; show fs0.length + 1 + _ ≤ _; omega, ?_⟩
      · rw [List.append_assoc, List.cons_append, set_mid, List.map_append (l₁ := fs0 ++ [(a, b)])]
        rfl
      · rcases hin with hin | hin
        · exact .inl (List.mem_append_left _ hin)
        · have hgap := hn.gap (x := c) (y := d) d1 dm hin
          by_cases hq : c' * d = c * d'
          · left
            have ⟨g1, g2⟩ := hn.cd
            obtain ⟨rfl, rfl⟩ := cross_co (x := c') (y := d') (p := c) (q := d) (by omega) hn.d1 c1 d1 hn.bd.co hc.co hq
            simp
          · exact .inr (by omega)
  · by_cases hq : 1 * d = c * m
    · left
      have : c = 1 := by
        by_cases h : c = 1
        · exact h
        · have := Int.mul_le_mul_of_nonneg_right (show 2 ≤ c by omega) (show 0 ≤ m by omega)
          omega
      subst this
      have : d = m := by omega
      subst this
      simp
    · right
      have := Int.mul_le_mul_of_nonneg_right c1 (show 0 ≤ m by omega)
      omega
/-! is a pair out of a tuple of pairs? -/
def ppr (q : Int × Int) : PyData := .tuple [.int q.1, .int q.2]
theorem pys_map {f : Nat → Option PyData} : ∀ {l : List (Int × Int)}, pysI f (l.map pr) = some (l.map ppr)
  | [] => rfl
  | q :: l => by
    show (match pyI f (pr q), pysI f (l.map pr) with
      | some p, some ps => some (p :: ps)
      | _, _ => none) = _
    rw [pys_map (l := l)]
    rfl
theorem lay_map : ∀ {l : List (Int × Int)}, PyData.canLayAll0 (l.map ppr) = true ∧ PyData.depthAll (l.map ppr) ≤ 1
  | [] => ⟨rfl, Nat.zero_le _⟩
  | q :: l => by
    obtain ⟨h1, h2⟩ := lay_map (l := l)
    constructor
    · show (true && PyData.canLayAll0 (l.map ppr)) = true
      rw [h1]; rfl
    · show max (PyData.depth (ppr q)) (PyData.depthAll (l.map ppr)) ≤ 1
      have : PyData.depth (ppr q) = 1 := rfl
      omega
theorem ppr_eqv {a b : Int × Int} : PyData.eqv (ppr a) (ppr b) = decide (a = b) := by
  simp only [ppr, PyData.eqv, PyData.eqvAll, Bool.and_true]
  rw [Bool.eq_iff_iff]
  simp only [Bool.and_eq_true, beq_iff_eq, decide_eq_true_eq]
  exact ⟨fun h => Prod.ext h.1 h.2, fun h => by rw [h]; exact ⟨rfl, rfl⟩⟩
theorem notIn_prT {l : List (Int × Int)} {p : Int × Int} : SatO (cmpD .NotIn (pr p) (.tup (l.map pr)) S) P = P (.bl (!decide (p ∈ l))) S := by
  have h1 : py S (.tup (l.map pr)) = some (.tuple (l.map ppr)) := by
    show (pysI (lstOf S 4) (l.map pr)).map PyData.tuple = _
    rw [pys_map]
    rfl
  have h2 : SeqAt.shaped (.tuple (l.map ppr)) = true := by
    obtain ⟨h1, h2⟩ := lay_map (l := l)
    show (PyData.canLayAll0 (l.map ppr) && decide (PyData.depthAll (l.map ppr) + 1 ≤ 64)) = true
    rw [h1, decide_eq_true (by omega)]
    rfl
  show SatO (match seqD (.tup (l.map pr)) S with
    | some ds => if flatD (pr p) = true ∧ ds.all flatD = true then some (D.bl (!(ds.any fun y => eqF y (pr p))), S) else deepD true (pr p) (.tup (l.map pr)) S
    | none => none) P = _
  have hs : seqD (.tup (l.map pr)) S = some (l.map pr) := rfl
  rw [hs]
  have hf : ¬ (flatD (pr p) = true ∧ (l.map pr).all flatD = true) := fun z => by cases z.1
  simp only [hf, if_false]
  unfold deepD
  have hp : py S (pr p) = some (ppr p) := rfl
  rw [hp, h1]
  have hc : SeqAt.shaped (ppr p) = true ∧ SeqAt.shaped (.tuple (l.map ppr)) = true ∧ (ppr p).depth ≤ 60 := ⟨rfl, h2, by show 1 ≤ 60; decide⟩
  simp only [hc, and_self, if_true, sato_some]
  congr 2
  have : ((l.map ppr).any fun z => PyData.eqv z (ppr p)) = decide (p ∈ l) := by
    rw [List.any_map, Bool.eq_iff_iff]
    simp only [List.any_eq_true, Function.comp, ppr_eqv, decide_eq_true_eq]
    exact ⟨fun ⟨x, hx, e⟩ => e ▸ hx, fun hx => ⟨p, hx, rfl⟩⟩
  rw [this]
end
end K27
set_option Elab.async false
set_option linter.all false
set_option maxRecDepth 100000
set_option maxHeartbeats 2000000
namespace K27
open PySem L2 DL
section
variable {C : CA} {S : SS} {P : D → SS → Prop} {X : XQ} {Y : Sl → XQ} {Pn : Sl → SS → Prop}
/-! gaps -/
theorem fp_gcd {a b : Int} (hb : 0 < b) : Int.gcd (fp a b).1 (fp a b).2 = 1 := co (by omega)
theorem fp_z {a b : Int} (hb : 0 < b) : 0 < (fp a b).2 := by
  have := de_one (a := a) (b := b) (by omega)
  show 0 < de a b
  omega
theorem fp_neg {a b : Int} (hb : 0 < b) : fp (-a) b = (-(fp a b).1, (fp a b).2) := by
  obtain ⟨g, hg, g1, g2⟩ := fp_parts (A := a) (B := b) hb
  have z := fp_z (a := a) hb
  rw [fp_fr (c := -(fp a b).1) (d := (fp a b).2) hb z]
  · exact fp_co z (by show Nat.gcd (-(fp a b).1).natAbs _ = 1; rw [Int.natAbs_neg]; exact fp_gcd hb) 
  · generalize (fp a b).1 = x at *
    generalize (fp a b).2 = y at *
    rw [g1, g2]
    grind
theorem fp_sign {a b : Int} (hb : 0 < b) : 0 ≤ (fp a b).1 ↔ 0 ≤ a := by
  obtain ⟨g, hg, g1, g2⟩ := fp_parts (A := a) (B := b) hb
  generalize (fp a b).1 = x at *
  rw [g1]
  constructor
  · exact fun h => Int.mul_nonneg (by omega) h
  · intro h
    exact Int.nonneg_of_mul_nonneg_right h hg
/-- a pair with its over's sign away -/
theorem abs_minus {f r : Int × Int} (hb : 0 < f.2 * r.2) : ((if (minusP f r).1 < 0 then -(minusP f r).1 else (minusP f r).1), (minusP f r).2) = gpF f r := by
  have sg := fp_sign (a := f.1 * r.2 - r.1 * f.2) hb
  have ng := fp_neg (a := f.1 * r.2 - r.1 * f.2) hb
  unfold gpF gp minusP
  by_cases h : 0 ≤ f.1 * r.2 - r.1 * f.2
  · have e : ((f.1 * r.2 - r.1 * f.2).natAbs : Int) = f.1 * r.2 - r.1 * f.2 := by omega
    rw [e, if_neg (by have := sg.mpr h; omega)]
  · have e : ((f.1 * r.2 - r.1 * f.2).natAbs : Int) = -(f.1 * r.2 - r.1 * f.2) := by omega
    rw [e, ng]
    by_cases h2 : 0 ≤ (fp (f.1 * r.2 - r.1 * f.2) (f.2 * r.2)).1
    · exact absurd (sg.mp h2) h
    · rw [if_pos (by omega)]
/-- small positive fractions -/
structure Fr (f : Int × Int) : Prop where
  a1 : 1 ≤ f.1
  a2 : f.1 ≤ 1000
  b1 : 1 ≤ f.2
  b2 : f.2 ≤ 1000
theorem Fr.sm {f : Int × Int} (h : Fr f) : Sm 10 f := by
  have := h.a1; have := h.a2; have := h.b1; have := h.b2
  exact ⟨by omega, by omega, by omega⟩
theorem Fr.pos {f g : Int × Int} (h : Fr f) (hg : Fr g) : 0 < f.2 * g.2 := Int.mul_pos (by have := h.b1; omega) (by have := hg.b1; omega)
theorem gpF_sm {f r : Int × Int} (h : Fr f) (hr : Fr r) : Sm 30 (gpF f r) := by
  have s := minus_sm h.sm hr.sm
  rw [← abs_minus (h.pos hr)]
  have h1 := s.l; have h2 := s.r; have h3 := s.z
  refine ⟨?_, two_lt h2 (by decide), h3⟩
  show (if (minusP f r).1 < 0 then -(minusP f r).1 else (minusP f r).1).natAbs < _
  split
  · rw [Int.natAbs_neg]
    exact two_lt h1 (by decide)
  · exact two_lt h1 (by decide)
theorem far_from_sat {r f : Int × Int} (hr : Fr r) (hf : Fr f) (k : P (pr (gpF f r)) S) : Sat (F_far_from C [pr r, pr f] S) P := by
  have e := abs_minus (f := f) (r := r) (hf.pos hr)
  rw [sem_far_from]
  refine XSat.s (x_fn ?_)
  unfold B_far_from
  simp only [startD, List.getElem?_cons_succ, List.getElem?_cons_zero, List.set_cons_succ, List.set_cons_zero, List.length_cons, List.length_nil, List.map_cons, List.map_nil, List.cons_append, List.nil_append, List.replicate, Nat.reduceAdd, Nat.zero_add, true_and]
  rw [x_seq, x_asg1]
  simp only [xe_call, xa_cons, xa_nil, xe_var, List.getElem?_cons_succ, List.getElem?_cons_zero, List.set_cons_succ, List.set_cons_zero, List.length_cons, List.length_nil, List.map_cons, List.map_nil, List.cons_append, List.nil_append, List.replicate, Nat.reduceAdd, Nat.zero_add, true_and]
  refine (minus_sat (a := f) (b := r) (hf.sm.up (by decide)) (hr.sm.up (by decide)) ?_).x
  rw [x_seq, x_ret]
  simp only [xe_if, xt_val, xe_op2, xe_op1, xe_tup2, xe_var, xe_c, so_ix0, so_ix1, so_ge, so_neg, boolOf_bl, List.getElem?_cons_succ, List.getElem?_cons_zero, List.set_cons_succ, List.set_cons_zero, List.length_cons, List.length_nil, List.map_cons, List.map_nil, List.cons_append, List.nil_append, List.replicate, Nat.reduceAdd, Nat.zero_add, true_and]
  have e1 := congrArg Prod.fst e
  have e2 := congrArg Prod.snd e
  simp only at e1 e2
  by_cases h : 0 ≤ (minusP f r).1
  · rw [if_pos (decide_eq_true h)]
    rw [if_neg (by omega)] at e1
    have : minusP f r = gpF f r := Prod.ext e1 e2
    rw [this]
    exact k
  · rw [if_neg (by simpa using h)]
    rw [if_pos (by omega)] at e1
    rw [e1, e2]
    exact k
theorem l_gap_sat {r f : Int × Int} (hr : Fr r) (hf : Fr f) (k : P (pr (gpF f r)) S) : Sat (F_l_gap C [pr f, pr r] S) P := by
  have e := abs_minus (f := f) (r := r) (hf.pos hr)
  rw [sem_l_gap]
  refine XSat.s (x_fn ?_)
  unfold B_l_gap
  simp only [startD, List.getElem?_cons_succ, List.getElem?_cons_zero, List.set_cons_succ, List.set_cons_zero, List.length_cons, List.length_nil, List.map_cons, List.map_nil, List.cons_append, List.nil_append, List.replicate, Nat.reduceAdd, Nat.zero_add, true_and]
  rw [x_seq, x_asg1]
  simp only [xe_call, xa_cons, xa_nil, xe_var, List.getElem?_cons_succ, List.getElem?_cons_zero, List.set_cons_succ, List.set_cons_zero, List.length_cons, List.length_nil, List.map_cons, List.map_nil, List.cons_append, List.nil_append, List.replicate, Nat.reduceAdd, Nat.zero_add, true_and]
  refine (l_minus_sat ?_).x
  have sn : Sm 10 (-r.1, r.2) := ⟨by show (-r.1).natAbs < _; rw [Int.natAbs_neg]; exact hr.sm.l, hr.sm.r, hr.sm.z⟩
  refine (l_sum_sat (a := f) (b := (-r.1, r.2)) (hf.sm.up (by decide)) (sn.up (by decide)) ?_).x
  rw [plus_min, x_seq, x_ret]
  simp only [xe_tup2, xe_cb, xe_op2, xa_cons, xa_nil, xe_var, xe_c, so_ix0, so_ix1, List.getElem?_cons_succ, List.getElem?_cons_zero, List.set_cons_succ, List.set_cons_zero, List.length_cons, List.length_nil, List.map_cons, List.map_nil, List.cons_append, List.nil_append, List.replicate, Nat.reduceAdd, Nat.zero_add, true_and]
  rw [so_abs]
  have e1 := congrArg Prod.fst e
  have e2 := congrArg Prod.snd e
  simp only at e1 e2
  rw [e1, e2]
  exact k
/-! pairs of wheels -/
@[irreducible] def skD (n : Nat) : D := .tup ((List.range n).map fun i => .int (1 + nI i))
theorem skD_eq {n : Nat} : skD n = .tup ((List.range n).map fun i => .int (1 + nI i)) := by unfold skD; rfl
theorem ix_st {n p : Nat} (h : p < n) : SatO (ixD (skD n) (.int (nI p)) S) P = P (.int (1 + nI p)) S := by
  rw [skD_eq, so_ixT (n := p) (by rw [List.getElem?_map, List.getElem?_range h]; rfl) nI_eq]
theorem teeth_sat {n p : Nat} (hn : n ≤ 10) (h : p < n) (k : P (.int (1 + nI p)) S) : Sat (F_teeth_of C [skD n, .tup [.int (nI p)]] S) P := by
  have hp : 0 ≤ nI p ∧ nI p ≤ 10 := by rw [nI_eq]; omega
  rw [sem_teeth_of]
  refine XSat.s (x_fn ?_)
  unfold B_teeth_of
  simp only [startD, List.getElem?_cons_succ, List.getElem?_cons_zero, List.set_cons_succ, List.set_cons_zero, List.length_cons, List.length_nil, List.map_cons, List.map_nil, List.cons_append, List.nil_append, List.replicate, Nat.reduceAdd, Nat.zero_add, true_and]
  rw [x_seq, x_asg1, xe_c, x_seq]
  refine x_for ?_
  simp only [xit_val, xe_var, iterD, List.getElem?_cons_succ, List.getElem?_cons_zero, List.set_cons_succ, List.set_cons_zero, List.length_cons, List.length_nil, List.map_cons, List.map_nil, List.cons_append, List.nil_append, List.replicate, Nat.reduceAdd, Nat.zero_add, true_and]
  refine ⟨fun j δ S' => S' = S ∧ ∃ o3, δ = [some (skD n), some (.tup [.int (nI p)]), some (.int (if j = 0 then 1 else 1 + nI p)), o3], ⟨rfl, none, rfl⟩, ?_, ?_⟩
  · rintro j d δ S' hj ⟨rfl, o3, rfl⟩
    have hjl := (List.getElem?_eq_some_iff.mp hj).1
    have : j = 0 := by simpa using hjl
    subst this
    have hd : D.int (nI p) = d := by simpa using hj
    subst hd
    refine ⟨trivial, _, rfl, ?_⟩
    simp only [List.getElem?_cons_succ, List.getElem?_cons_zero, List.set_cons_succ, List.set_cons_zero, List.length_cons, List.length_nil, List.map_cons, List.map_nil, List.cons_append, List.nil_append, List.replicate, Nat.reduceAdd, Nat.zero_add, true_and]
    rw [x_seq, x_asg1]
    simp only [xe_op2, xe_var, ix_st h, if_true, so_mul, List.getElem?_cons_succ, List.getElem?_cons_zero, List.set_cons_succ, List.set_cons_zero, List.length_cons, List.length_nil, List.map_cons, List.map_nil, List.cons_append, List.nil_append, List.replicate, Nat.reduceAdd, Nat.zero_add, true_and]
    refine ⟨mulOk64 (by decide) (by omega), ?_⟩
    rw [x_nil, Int.one_mul]
    exact ⟨rfl, _, rfl⟩
  · rintro δ S' ⟨rfl, o3, rfl⟩
    refine ⟨trivial, ?_⟩
    rw [x_seq, x_ret]
    simp only [xe_var, List.getElem?_cons_succ, List.getElem?_cons_zero, List.set_cons_succ, List.set_cons_zero, List.length_cons, List.length_nil, List.map_cons, List.map_nil, List.cons_append, List.nil_append, List.replicate, Nat.reduceAdd, Nat.zero_add, true_and]
    exact k
end
end K27
set_option Elab.async false
set_option linter.all false
set_option maxRecDepth 100000
set_option maxHeartbeats 2000000
namespace K27
open PySem L2 DL
section
variable {C : CA} {S : SS} {P : D → SS → Prop} {X : XQ} {Y : Sl → XQ} {Pn : Sl → SS → Prop}
/-! rows of places -/
theorem so_slLf {k : Nat} {ds : List D} {i : Int} {n : Nat} (h : S[k]? = some (.lst ds)) (hi : i = (n : Int)) : SatO (slD (some i) none (.ref k) S) P = P (.ref S.length) (S ++ [.lst (ds.drop n)]) := by
  subst hi
  unfold slD itemsD
  simp only [h, sato_some]
  rw [cut_drop]
theorem so_augL {i j : Nat} {xs ys : List D} (h1 : S[i]? = some (.lst xs)) (h2 : S[j]? = some (.lst ys)) (h : xs.length + ys.length ≤ 16777216) : SatO (augD .Add (.ref i) (.ref j) S) P = P (.ref i) (S.set i (.lst (xs ++ ys))) := by
  unfold augD
  simp only [h1, h2]
  rw [if_pos (le_size (by omega))]
  rfl
abbrev nL (is : List Nat) : List D := is.map fun i => .int (nI i)
abbrev tL (is : List Nat) : List D := is.map fun i => .tup [.int (nI i)]
theorem rows0 {kp k : Nat} (h : P (.ref S.length) (S ++ [.lst [.tup []]])) : Sat (R_rows_from C (k + 1) [.ref kp, .int 0] S) P := by
  rw [sem_rows_from]
  refine XSat.s (x_fn ?_)
  unfold B_rows_from
  simp only [startD, List.getElem?_cons_succ, List.getElem?_cons_zero, List.set_cons_succ, List.set_cons_zero, List.length_cons, List.length_nil, List.map_cons, List.map_nil, List.cons_append, List.nil_append, List.replicate, Nat.reduceAdd, Nat.zero_add, true_and]
  rw [x_seq, x_if]
  simp only [xt_val, xe_op2, xe_var, xe_c, eq_int, boolOf_bl, List.getElem?_cons_succ, List.getElem?_cons_zero, List.set_cons_succ, List.set_cons_zero, List.length_cons, List.length_nil, List.map_cons, List.map_nil, List.cons_append, List.nil_append, List.replicate, Nat.reduceAdd, Nat.zero_add, true_and]
  rw [if_pos (show ((0 : Int) == 0) = true from rfl), x_seq, x_ret]
  simp only [xe_lst1, xe_tup0]
  exact h
theorem rows1 {kp k : Nat} {is : List Nat} (hk : S[kp]? = some (.lst (nL is))) (hl : is.length ≤ 100) (h : ∀ j l, (S ++ l)[j]? = some (.lst (tL is)) → S.length ≤ j → P (.ref j) (S ++ l)) : Sat (R_rows_from C (k + 1 + 1) [.ref kp, .int 1] S) P := by
  rw [sem_rows_from]
  refine XSat.s (x_fn ?_)
  unfold B_rows_from
  simp only [startD, List.getElem?_cons_succ, List.getElem?_cons_zero, List.set_cons_succ, List.set_cons_zero, List.length_cons, List.length_nil, List.map_cons, List.map_nil, List.cons_append, List.nil_append, List.replicate, Nat.reduceAdd, Nat.zero_add, true_and]
  rw [x_seq, x_if]
  simp only [xt_val, xe_op2, xe_var, xe_c, eq_int, boolOf_bl, List.getElem?_cons_succ, List.getElem?_cons_zero, List.set_cons_succ, List.set_cons_zero, List.length_cons, List.length_nil, List.map_cons, List.map_nil, List.cons_append, List.nil_append, List.replicate, Nat.reduceAdd, Nat.zero_add, true_and]
  rw [if_neg (show ¬ ((1 : Int) == 0) = true by decide), x_nil, x_seq, x_asg1]
  simp only [xe_lst0, List.getElem?_cons_succ, List.getElem?_cons_zero, List.set_cons_succ, List.set_cons_zero, List.length_cons, List.length_nil, List.map_cons, List.map_nil, List.cons_append, List.nil_append, List.replicate, Nat.reduceAdd, Nat.zero_add, true_and]
  rw [x_seq]
  refine x_forR (n := is.length) (fun j δ S' => ∃ l o3 o4, S' = S ++ .lst (tL (is.take j)) :: l ∧ δ = [some (.ref kp), some (.int 1), some (.ref S.length), o3, o4]) (by omega) (fun Q hq => by
    simp only [xa_cons, xa_nil, xe_cb, xe_var, List.getElem?_cons_succ, List.getElem?_cons_zero, List.set_cons_succ, List.set_cons_zero, List.length_cons, List.length_nil, List.map_cons, List.map_nil, List.cons_append, List.nil_append, List.replicate, Nat.reduceAdd, Nat.zero_add, true_and]
    rw [so_lenL (ds := nL is) (get_app hk), List.length_map, ← nI_eq]
    exact hq) ⟨[], none, none, rfl, rfl⟩ ?_ ?_
  · rintro j δ S' hj ⟨l, o3, o4, rfl, rfl⟩
    refine ⟨_, rfl, ?_⟩
    simp only [List.getElem?_cons_succ, List.getElem?_cons_zero, List.set_cons_succ, List.set_cons_zero, List.length_cons, List.length_nil, List.map_cons, List.map_nil, List.cons_append, List.nil_append, List.replicate, Nat.reduceAdd, Nat.zero_add, true_and]
    have hkp : kp < S.length := get_len hk
    have hk' : ∀ l, (S ++ l)[kp]? = some (.lst (nL is)) := fun l => get_app hk
    rw [x_seq, x_aug rfl]
    generalize hS2 : S ++ MO.lst (tL (is.take j)) :: l = S2
    have hk2 : S2[kp]? = some (.lst (nL is)) := by rw [← hS2]; exact hk' _
    refine Sat.x (lc_filtA (S0 := S2 ++ [.lst ((nL is).drop (j + 1))] ++ [.lst [.tup []]]) (items := [.tup []]) (g := fun _ => .tup [.int (nI is[j])]) (c := fun _ => true) (XSat.s ?_) (fun z hz => ⟨_, rfl, fun l0 Q kk => ?_, fun l0 Q _ kk => XSat.s ?_⟩) (by decide) fun l2 => ?_)
    · have e1 : nI j + 1 = ((j + 1 : Nat) : Int) := by rw [nI_eq]; omega
      have e2 : (1 : Int) - 1 = 0 := by decide
      simp only [xit_val, xe_call, xe_sl, xe_op2, xa_cons, xa_nil, xe_var, xe_c, xo_some, xo_none, so_add, so_sub, intOf, e2, List.getElem?_cons_succ, List.getElem?_cons_zero, List.set_cons_succ, List.set_cons_zero, List.length_cons, List.length_nil, List.map_cons, List.map_nil, List.cons_append, List.nil_append, List.replicate, Nat.reduceAdd, Nat.zero_add, true_and]
      rw [so_slLf hk2 e1]
      refine (rows0 ?_).x
      rw [iter_ref get_last]
      refine ⟨fun l => ⟨get_app get_last, trivial⟩, ?_⟩
      first
        | exact ⟨rfl, rfl⟩
        | trivial
    · rw [t_yes]
      have := kk []
      rwa [List.append_nil] at this
    · rw [List.mem_singleton.mp hz]
      have hk3 : (S2 ++ [.lst ((nL is).drop (j + 1))] ++ [.lst [.tup []]] ++ l0)[kp]? = some (.lst (nL is)) := get_app (get_app (get_app hk2))
      simp only [wipeD, xe_op2, xe_tup1, xe_var, List.getElem?_cons_succ, List.getElem?_cons_zero, List.set_cons_succ, List.set_cons_zero, List.length_cons, List.length_nil, List.map_cons, List.map_nil, List.cons_append, List.nil_append, List.replicate, Nat.reduceAdd, Nat.zero_add, true_and]
      rw [so_ixL hk3 (n := j) (d := .int (nI is[j])) (by rw [List.getElem?_map, List.getElem?_eq_getElem hj]; rfl) nI_eq]
      rw [so_addT (xs := [.int (nI is[j])]) (ys := []) (show 1 + 0 ≤ 16777216 by decide)]
      have := kk []
      rwa [List.append_nil] at this
    · have ef : (([.tup []] : List D).filter fun _ => true).map (fun _ => D.tup [.int (nI is[j])]) = [.tup [.int (nI is[j])]] := rfl
      rw [ef]
      have e : S2 ++ [.lst ((nL is).drop (j + 1))] ++ [.lst [.tup []]] ++ MO.lst [.tup [.int (nI is[j])]] :: l2 = S ++ .lst (tL (is.take j)) :: (l ++ ([MO.lst ((nL is).drop (j + 1))] ++ [MO.lst [.tup []]] ++ MO.lst [.tup [.int (nI is[j])]] :: l2)) := by
        rw [← hS2]
        simp
      have g2 := get_mid (S := S2 ++ [MO.lst ((nL is).drop (j + 1))] ++ [MO.lst [.tup []]]) (a := MO.lst [.tup [.int (nI is[j])]]) (l := l2)
      generalize (S2 ++ [MO.lst ((nL is).drop (j + 1))] ++ [MO.lst [.tup []]]).length = jj at *
      rw [e] at g2 ⊢
      rw [so_augL (xs := tL (is.take j)) (ys := [.tup [.int (nI is[j])]]) get_mid g2 (by simp; omega), set_mid, x_nil]
      have et : tL (is.take (j + 1)) = tL (is.take j) ++ [.tup [.int (nI is[j])]] := by
        unfold tL
        rw [List.take_add_one, List.getElem?_eq_getElem hj, List.map_append]
        rfl
      rw [← et]
      exact ⟨_, _, _, rfl, rfl⟩
  · rintro δ S' ⟨l, o3, o4, rfl, rfl⟩
    rw [x_seq, x_ret]
    simp only [xe_var, List.getElem?_cons_succ, List.getElem?_cons_zero, List.set_cons_succ, List.set_cons_zero, List.length_cons, List.length_nil, List.map_cons, List.map_nil, List.cons_append, List.nil_append, List.replicate, Nat.reduceAdd, Nat.zero_add, true_and]
    exact h _ _ (by rw [List.take_length]; exact get_mid) (Nat.le_refl _)
end
end K27
set_option Elab.async false
set_option linter.all false
set_option maxRecDepth 100000
set_option maxHeartbeats 2000000
namespace K27
open PySem L2 DL
section
variable {C : CA} {S : SS} {P : D → SS → Prop} {X : XQ} {Y : Sl → XQ} {Pn : Sl → SS → Prop}
/-! all choices of one pair -/
structure CS (S S' : SS) (kf : Nat) (F : List D) (K : List (Nat × List D)) : Prop where
  e : ∃ m, S' = S ++ m
  f : S'[kf]? = some (.lst F)
  g : ∀ p ∈ K, S'[p.1]? = some (.lst p.2) ∧ p.1 ≠ kf
  k : S.length ≤ kf
theorem CS.app {S S' : SS} {kf : Nat} {F : List D} {K : List (Nat × List D)} (h : CS S S' kf F K) {l : SS} : CS S (S' ++ l) kf F K := by
  obtain ⟨⟨m, rfl⟩, h2, h3, h4⟩ := h
  exact ⟨⟨m ++ l, by rw [List.append_assoc]⟩, get_app h2, fun p hp => ⟨get_app (h3 p hp).1, (h3 p hp).2⟩, h4⟩
theorem CS.set {S S' : SS} {kf : Nat} {F G : List D} {K : List (Nat × List D)} (h : CS S S' kf F K) : CS S (S'.set kf (.lst G)) kf G K := by
  obtain ⟨⟨m, rfl⟩, h2, h3, h4⟩ := h
  refine ⟨⟨m.set (kf - S.length) (.lst G), by rw [List.set_append_right _ _ h4]⟩, ?_, fun p hp => ⟨?_, (h3 p hp).2⟩, h4⟩
  · exact List.getElem?_set_self (get_len h2)
  · rw [List.getElem?_set_ne (Ne.symm (h3 p hp).2)]
    exact (h3 p hp).1
theorem CS.add {S S' : SS} {kf j : Nat} {F G : List D} {K : List (Nat × List D)} (h : CS S S' kf F K) (hj : S'[j]? = some (.lst G)) (hn : j ≠ kf) : CS S S' kf F ((j, G) :: K) := by
  refine ⟨h.e, h.f, fun p hp => ?_, h.k⟩
  rcases List.mem_cons.mp hp with rfl | hp
  · exact ⟨hj, hn⟩
  · exact h.g p hp
theorem CS.drop {S S' : SS} {kf : Nat} {p : Nat × List D} {F : List D} {K : List (Nat × List D)} (h : CS S S' kf F (p :: K)) : CS S S' kf F K := ⟨h.e, h.f, fun q hq => h.g q (List.mem_cons_of_mem _ hq), h.k⟩
def ch (p d : Nat) : D := .tup [.tup [.int (nI p)], .tup [.int (nI d)], pr (fp (1 + nI p) (1 + nI d))]
theorem len_sk {n : Nat} : SatO (one lenD [skD n] S) P = P (.int (nI n)) S := by
  rw [skD_eq, so_lenN, List.length_map, List.length_range]
theorem so_lstRg1 {n : Nat} (h : n ≤ 1000) : SatO (lstRg1D (.int (nI n)) S) P = P (.ref S.length) (S ++ [.lst (nL (List.range n))]) := by
  have hr : RgOk 0 (nI n) := by
    unfold RgOk
    rw [nI_eq]
    omega
  have e : lstRg1D (.int (nI n)) S = some (.ref S.length, S ++ [.lst (rngItems 0 (nI n).toNat 1)]) := if_pos hr
  rw [e]
  have e2 : rngItems 0 (nI n).toNat 1 = nL (List.range n) := by
    have : (nI n).toNat = n := by rw [nI_eq]; omega
    rw [this]
    unfold rngItems nL
    refine List.map_congr_left fun i _ => ?_
    rw [nI_eq]
    congr 1
    omega
  rw [e2]
  rfl
theorem notIn1 {x y : Int} : SatO (cmpD .NotIn (.int x) (.tup [.int y]) S) P = P (.bl (!((y == x) || false))) S := (rfl)
def cN (i : Nat) : D → Bool
  | .int x => !((nI i == x) || false)
  | _ => true
theorem left_eq {n i : Nat} : ((nL (List.range n)).filter (cN i)).map (fun d => d) = nL ((List.range n).filter fun z => decide (z ≠ i)) := by
  rw [List.map_id', List.filter_map]
  unfold nL
  congr 1
  refine List.filter_congr fun z _ => ?_
  show (!((nI i == nI z) || false)) = decide (z ≠ i)
  rw [nI_eq, nI_eq, Bool.or_false]
  by_cases h : z = i
  · subst h
    simp
  · have : ((i : Int) == (z : Int)) = false := by simp; omega
    rw [this, decide_eq_true h]
    rfl
/-- one inner turn after another -/
theorem inner_sat {n i kp kf j : Nat} {F0 : List D} {R : PSt} {K : List (Nat × List D)} {is : List Nat} {S0 : SS} (hn : n ≤ 10) (hi : i < n) (his : ∀ z ∈ is, z < n ∧ z ≠ i) (hl : is.length ≤ 10) (hF : F0.length ≤ 1000)
    (hs : CS S0 S kf F0 K) (hj : S[j]? = some (.lst (nL is))) (hjk : j < S.length) {o7 o8 : Option D} (hm : ∀ x ∈ F0, ∃ p d, p < n ∧ d < n ∧ p ≠ d ∧ x = ch p d)
    (k : ∀ F S' o7, CS S0 S' kf F K → F0.length ≤ F.length → F.length ≤ F0.length + is.length → (∀ x ∈ F0, x ∈ F) → (∀ z ∈ is, ch i z ∈ F) → (∀ x ∈ F, ∃ p d, p < n ∧ d < n ∧ p ≠ d ∧ x = ch p d) → XR (R [some (skD n), some (.int 1), some (.ref kp), some (.ref kf), some (.tup [.int (nI i)]), some (.ref j), some (.int (1 + nI i)), o7, o8] S') Pn P Y) :
    XR (sSeq (sFor (iVal (eCall (F_rows_from C) 2 (aCons (eVar 5) (aCons (eVar 1) aNil)))) (.one 7) (sSeq (sDrop (eMt miApp (eVar 3) (aCons (eTup (aCons (eVar 4) (aCons (eVar 7) (aCons (eCall (F_least C) 2 (aCons (eVar 6) (aCons (eCall (F_teeth_of C) 2 (aCons (eVar 0) (aCons (eVar 7) aNil))) aNil))) aNil)))) aNil))) sNil)) R [some (skD n), some (.int 1), some (.ref kp), some (.ref kf), some (.tup [.int (nI i)]), some (.ref j), some (.int (1 + nI i)), o7, o8] S) Pn P Y := by
  rw [x_seq]
  refine x_for ?_
  simp only [xit_val, xe_call, xa_cons, xa_nil, xe_var, List.getElem?_cons_succ, List.getElem?_cons_zero, List.set_cons_succ, List.set_cons_zero, List.length_cons, List.length_nil, List.map_cons, List.map_nil, List.cons_append, List.nil_append, List.replicate, Nat.reduceAdd, Nat.zero_add, true_and]
  refine (rows1 (k := 6) hj (by omega) fun j2 l h2 hj2 => ?_).x
  rw [iter_ref h2]
  have hkf : kf < S.length := get_len hs.f
  have cs0 : CS S0 (S ++ l) kf F0 ((j2, tL is) :: K) := hs.app.add h2 (by omega)
  refine ⟨fun t δ S' => ∃ F o7, CS S0 S' kf F ((j2, tL is) :: K) ∧ F.length = F0.length + t ∧ (∀ x ∈ F0, x ∈ F) ∧ (∀ z ∈ is.take t, ch i z ∈ F) ∧ (∀ x ∈ F, ∃ p d, p < n ∧ d < n ∧ p ≠ d ∧ x = ch p d) ∧ δ = [some (skD n), some (.int 1), some (.ref kp), some (.ref kf), some (.tup [.int (nI i)]), some (.ref j), some (.int (1 + nI i)), o7, o8], ⟨F0, o7, cs0, rfl, fun x hx => hx, by simp, hm, rfl⟩, ?_, ?_⟩
  · rintro t d δ S' ht ⟨F, o7, cs, hFl, hF1, hF2, hF3, rfl⟩
    rw [List.getElem?_map, Option.map_eq_some_iff] at ht
    obtain ⟨z, hz, rfl⟩ := ht
    have htl := (List.getElem?_eq_some_iff.mp hz).1
    obtain ⟨hzn, hzi⟩ := his z (List.mem_of_getElem? hz)
    refine ⟨⟨(cs.g (j2, tL is) List.mem_cons_self).1, trivial⟩, _, rfl, ?_⟩
    simp only [List.getElem?_cons_succ, List.getElem?_cons_zero, List.set_cons_succ, List.set_cons_zero, List.length_cons, List.length_nil, List.map_cons, List.map_nil, List.cons_append, List.nil_append, List.replicate, Nat.reduceAdd, Nat.zero_add, true_and]
    rw [x_seq]
    refine x_app (ds0 := F) rfl cs.f ?_
    simp only [xe_tup3, xe_call, xa_cons, xa_nil, xe_var, List.getElem?_cons_succ, List.getElem?_cons_zero, List.set_cons_succ, List.set_cons_zero, List.length_cons, List.length_nil, List.map_cons, List.map_nil, List.cons_append, List.nil_append, List.replicate, Nat.reduceAdd, Nat.zero_add, true_and]
    refine (teeth_sat hn hzn ?_).x
    have hz0 : 0 ≤ nI z ∧ nI z ≤ 10 := by rw [nI_eq]; omega
    refine (least_sat (by omega) (by have : (1 + nI z).natAbs < 2 ^ 10 := by omega
                                     exact two_lt this (by decide)) ?_).x
    refine ⟨F, cs.f, by omega, ?_⟩
    rw [x_nil]
    refine ⟨F ++ [ch i z], _, cs.set, by rw [List.length_append, hFl]; show _ + 1 = _; omega, fun x hx => List.mem_append_left _ (hF1 x hx), ?_, ?_, rfl⟩
    · rw [List.take_add_one, hz]
      intro y hy
      rcases List.mem_append.mp hy with hy | hy
      · exact List.mem_append_left _ (hF2 y hy)
      · have : y = z := by simpa using hy
        subst this
        simp
    · intro x hx
      rcases List.mem_append.mp hx with hx | hx
      · exact hF3 x hx
      · rw [List.mem_singleton.mp hx]
        exact ⟨i, z, hi, hzn, Ne.symm hzi, rfl⟩
  · rintro δ S' ⟨F, o7, cs, hFl, hF1, hF2, hF3, rfl⟩
    rw [List.length_map] at hFl hF2
    rw [List.take_length] at hF2
    refine ⟨⟨(cs.g (j2, tL is) List.mem_cons_self).1, trivial⟩, ?_⟩
    exact k F S' o7 cs.drop (by omega) (by omega) hF1 hF2 hF3
end
end K27
set_option Elab.async false
set_option linter.all false
set_option maxRecDepth 100000
set_option maxHeartbeats 2000000
namespace K27
open PySem L2 DL
section
variable {C : CA} {S : SS} {P : D → SS → Prop} {X : XQ} {Y : Sl → XQ} {Pn : Sl → SS → Prop}
theorem choices_sat {n : Nat} (hn : n ≤ 10) (k : ∀ j F l, (S ++ l)[j]? = some (.lst F) → (∀ x ∈ F, ∃ p d, p < n ∧ d < n ∧ p ≠ d ∧ x = ch p d) → (∀ p d, p < n → d < n → p ≠ d → ch p d ∈ F) → F.length ≤ 1000 → P (.ref j) (S ++ l)) : Sat (F_choices_of C [skD n, .int 1] S) P := by
  rw [sem_choices_of]
  refine XSat.s (x_fn ?_)
  unfold B_choices_of
  simp only [startD, List.getElem?_cons_succ, List.getElem?_cons_zero, List.set_cons_succ, List.set_cons_zero, List.length_cons, List.length_nil, List.map_cons, List.map_nil, List.cons_append, List.nil_append, List.replicate, Nat.reduceAdd, Nat.zero_add, true_and]
  rw [x_seq, x_asg1]
  simp only [xe_op1, xe_cb, xa_cons, xa_nil, xe_var, len_sk, so_lstRg1 (n := n) (by omega), List.getElem?_cons_succ, List.getElem?_cons_zero, List.set_cons_succ, List.set_cons_zero, List.length_cons, List.length_nil, List.map_cons, List.map_nil, List.cons_append, List.nil_append, List.replicate, Nat.reduceAdd, Nat.zero_add, true_and]
  rw [x_seq, x_asg1]
  simp only [xe_lst0, List.getElem?_cons_succ, List.getElem?_cons_zero, List.set_cons_succ, List.set_cons_zero, List.length_cons, List.length_nil, List.map_cons, List.map_nil, List.cons_append, List.nil_append, List.replicate, Nat.reduceAdd, Nat.zero_add, true_and]
  rw [x_seq]
  refine x_for ?_
  simp only [xit_val, xe_call, xa_cons, xa_nil, xe_var, List.getElem?_cons_succ, List.getElem?_cons_zero, List.set_cons_succ, List.set_cons_zero, List.length_cons, List.length_nil, List.map_cons, List.map_nil, List.cons_append, List.nil_append, List.replicate, Nat.reduceAdd, Nat.zero_add, true_and]
  generalize hS1 : S ++ [MO.lst (nL (List.range n))] = S1
  have hlen : S1.length = S.length + 1 := by rw [← hS1, List.length_append]; rfl
  have hp0 : S1[S.length]? = some (.lst (nL (List.range n))) := by rw [← hS1]; exact get_last
  have cs0 : CS S (S1 ++ [.lst []]) S1.length [] [] := ⟨⟨[MO.lst (nL (List.range n))] ++ [MO.lst []], by rw [← hS1, List.append_assoc]⟩, get_last, by simp, by omega⟩
  have cs1 := cs0.add (j := S.length) (G := nL (List.range n)) (get_app hp0) (by omega)
  refine (rows1 (k := 6) (is := List.range n) (get_app hp0) (by rw [List.length_range]; omega) fun j l h1 hj => ?_).x
  rw [iter_ref h1]
  have hl2 : (S1 ++ [MO.lst []]).length = S1.length + 1 := by rw [List.length_append]; rfl
  have cs2 := (cs1.app (l := l)).add h1 (by omega)
  refine ⟨fun i δ S' => ∃ F o4 o5 o6 o7 o8, CS S S' S1.length F [(j, tL (List.range n)), (S.length, nL (List.range n))] ∧ F.length ≤ 10 * i ∧ (∀ x ∈ F, ∃ p d, p < n ∧ d < n ∧ p ≠ d ∧ x = ch p d) ∧ (∀ p d, p < i → p < n → d < n → p ≠ d → ch p d ∈ F) ∧ δ = [some (skD n), some (.int 1), some (.ref S.length), some (.ref S1.length), o4, o5, o6, o7, o8], ⟨[], none, none, none, none, none, cs2, by simp, by simp, fun p d h => absurd h (by omega), rfl⟩, ?_, ?_⟩
  · rintro i d δ S' hi ⟨F, o4, o5, o6, o7, o8, cs, hFl, hF1, hF2, rfl⟩
    rw [List.getElem?_map, Option.map_eq_some_iff] at hi
    obtain ⟨z, hz, rfl⟩ := hi
    have hil := (List.getElem?_eq_some_iff.mp hz).1
    rw [List.length_range] at hil
    rw [List.getElem?_range hil] at hz
    injection hz with hz
    subst hz
    have g1 := (cs.g (j, tL (List.range n)) List.mem_cons_self).1
    have g2 := (cs.g (S.length, nL (List.range n)) (List.mem_cons_of_mem _ List.mem_cons_self)).1
    refine ⟨⟨g1, trivial⟩, _, rfl, ?_⟩
    simp only [List.getElem?_cons_succ, List.getElem?_cons_zero, List.set_cons_succ, List.set_cons_zero, List.length_cons, List.length_nil, List.map_cons, List.map_nil, List.cons_append, List.nil_append, List.replicate, Nat.reduceAdd, Nat.zero_add, true_and]
    rw [x_seq, x_asg1]
    refine Sat.x (lc_filtA (S0 := S') (items := nL (List.range n)) (g := fun d => d) (c := cN i) (XSat.s (hit_ref rfl g2)) (fun w hw => ?_) (by rw [List.length_map, List.length_range]; omega) fun l2 => ?_)
    · obtain ⟨v, _, rfl⟩ := List.mem_map.mp hw
      refine ⟨_, rfl, fun l0 Q kk => XSat.s ?_, fun l0 Q _ kk => XSat.s ?_⟩
      · simp only [wipeD, xt_val, xe_op2, xe_var, notIn1, boolOf_bl, List.getElem?_cons_succ, List.getElem?_cons_zero, List.set_cons_succ, List.set_cons_zero, List.length_cons, List.length_nil, List.map_cons, List.map_nil, List.cons_append, List.nil_append, List.replicate, Nat.reduceAdd, Nat.zero_add, true_and]
        have := kk []
        rwa [List.append_nil] at this
      · simp only [wipeD, xe_var, List.getElem?_cons_succ, List.getElem?_cons_zero, List.set_cons_succ, List.set_cons_zero, List.length_cons, List.length_nil, List.map_cons, List.map_nil, List.cons_append, List.nil_append, List.replicate, Nat.reduceAdd, Nat.zero_add, true_and]
        have := kk []
        rwa [List.append_nil] at this
    · rw [left_eq]
      have cs3 := cs.app (l := MO.lst (nL ((List.range n).filter fun z => decide (z ≠ i))) :: l2)
      rw [x_seq, x_asg1]
      simp only [xe_call, xa_cons, xa_nil, xe_var, List.getElem?_cons_succ, List.getElem?_cons_zero, List.set_cons_succ, List.set_cons_zero, List.length_cons, List.length_nil, List.map_cons, List.map_nil, List.cons_append, List.nil_append, List.replicate, Nat.reduceAdd, Nat.zero_add, true_and]
      refine (teeth_sat hn hil ?_).x
      have hl3 : ((List.range n).filter fun z => decide (z ≠ i)).length ≤ 10 := by
        have := List.length_filter_le (fun z => decide (z ≠ i)) (List.range n)
        rw [List.length_range] at this
        omega
      refine inner_sat hn hil (fun z hz => ?_) hl3 (by have : 10 * i ≤ 10 * 10 := Nat.mul_le_mul_left _ (by omega); omega) cs3 get_mid (by simp) hF1 fun F' S'' o7' cs4 f1 f2 f3 f4 f5 => ?_
      · obtain ⟨z1, z2⟩ := List.mem_filter.mp hz
        exact ⟨List.mem_range.mp z1, by simpa using z2⟩
      · rw [x_nil]
        refine ⟨F', _, _, _, _, _, cs4, by omega, f5, fun p d hp1 hp2 hd hne => ?_, rfl⟩
        by_cases hpi : p = i
        · subst hpi
          exact f4 d (List.mem_filter.mpr ⟨List.mem_range.mpr hd, decide_eq_true (Ne.symm hne)⟩)
        · exact f3 _ (hF2 p d (by omega) hp2 hd hne)
  · rintro δ S' ⟨F, o4, o5, o6, o7, o8, cs, hFl, hF1, hF2, rfl⟩
    rw [List.length_map, List.length_range] at hFl hF2
    have g1 := (cs.g (j, tL (List.range n)) List.mem_cons_self).1
    refine ⟨⟨g1, trivial⟩, ?_⟩
    rw [x_seq, x_ret]
    simp only [xe_var, List.getElem?_cons_succ, List.getElem?_cons_zero, List.set_cons_succ, List.set_cons_zero, List.length_cons, List.length_nil, List.map_cons, List.map_nil, List.cons_append, List.nil_append, List.replicate, Nat.reduceAdd, Nat.zero_add, true_and]
    obtain ⟨m, rfl⟩ := cs.e
    exact k _ F m cs.f hF1 (fun p d hp hd hne => hF2 p d hp hp hd hne) (by omega)
theorem demand_stock_sat {n : Nat} (h2 : 2 ≤ n) (hn : n ≤ 10) (k : ∀ l, P .non (S ++ l)) : Sat (F_demand_stock C [skD n, .int 1] S) P := by
  rw [sem_demand_stock]
  refine XSat.s (x_fn ?_)
  unfold B_demand_stock
  simp only [startD, List.getElem?_cons_succ, List.getElem?_cons_zero, List.set_cons_succ, List.set_cons_zero, List.length_cons, List.length_nil, List.map_cons, List.map_nil, List.cons_append, List.nil_append, List.replicate, Nat.reduceAdd, Nat.zero_add, true_and]
  have hn1 : 2 ≤ nI n ∧ nI n ≤ 10 := by rw [nI_eq]; omega
  have ist : ∀ (S : SS) (P : D → SS → Prop), SatO (isiD [skD n, .ty "tuple"] S) P = P (.bl true) S := fun S P => by
    rw [skD_eq]
    rfl
  rw [x_seq, x_if]
  simp only [xt_or, xt_not, xt_tru, xt_val, xe_cb, xe_chain, xa_cons, xa_nil, xe_var, xe_c, ist, len_sk, tru_bl, so_le, boolOf_bl, decide_eq_true hn1.1, decide_eq_true hn1.2, if_true, Bool.not_true, Bool.false_eq_true, if_false, x_nil, List.getElem?_cons_succ, List.getElem?_cons_zero, List.set_cons_succ, List.set_cons_zero, List.length_cons, List.length_nil, List.map_cons, List.map_nil, List.cons_append, List.nil_append, List.replicate, Nat.reduceAdd, Nat.zero_add, true_and]
  rw [x_seq, x_if, xt_not, xt_tru]
  refine xc_all (items := (List.range n).map fun i => .int (1 + nI i)) (f := fun d => isR d 1 1000) (hit_tup (by rw [skD_eq]; rfl)) (fun z hz => ⟨_, rfl, fun S' Q kk => ?_⟩) (by rw [List.length_map, List.length_range]; omega) fun l => ?_
  · obtain ⟨i, _, rfl⟩ := List.mem_map.mp hz
    simp only [wipeD, xe_call, xa_cons, xa_nil, xe_var, xe_c, List.getElem?_cons_succ, List.getElem?_cons_zero, List.set_cons_succ, List.set_cons_zero, List.length_cons, List.length_nil, List.map_cons, List.map_nil, List.cons_append, List.nil_append, List.replicate, Nat.reduceAdd, Nat.zero_add, true_and]
    refine (in_range_sat rfl ?_).x
    have := kk []
    rwa [List.append_nil] at this
  · have e : (((List.range n).map fun i => D.int (1 + nI i)).all fun d => isR d 1 1000) = true := by
      rw [List.all_eq_true]
      intro d hd
      obtain ⟨i, hi, rfl⟩ := List.mem_map.mp hd
      have := List.mem_range.mp hi
      exact isR_of (by rw [nI_eq]; omega) (by rw [nI_eq]; omega)
    rw [e]
    simp only [tru_bl, Bool.not_true, Bool.false_eq_true, if_false, x_nil]
    rw [x_seq, x_if]
    simp only [xt_or, xt_not, xt_tru, xt_val, xe_call, xe_op2, xe_cb, xa_cons, xa_nil, xe_var, xe_c, List.getElem?_cons_succ, List.getElem?_cons_zero, List.set_cons_succ, List.set_cons_zero, List.length_cons, List.length_nil, List.map_cons, List.map_nil, List.cons_append, List.nil_append, List.replicate, Nat.reduceAdd, Nat.zero_add, true_and]
    refine (in_range_sat rfl ?_).x
    rw [show isR (.int 1) 1 3 = true from rfl]
    simp only [tru_bl, Bool.not_true, Bool.false_eq_true, if_false, so_mul, len_sk, so_gt, boolOf_bl]
    refine ⟨mulOk64 (by decide) (by decide), ?_⟩
    rw [decide_eq_false (show ¬ nI n < 2 * 1 by omega)]
    simp only [Bool.false_eq_true, if_false, x_nil]
    exact k l
end
end K27
set_option Elab.async false
set_option linter.all false
set_option maxRecDepth 100000
set_option maxHeartbeats 2000000
namespace K27
open PySem L2 DL
section
variable {C : CA} {S : SS} {P : D → SS → Prop} {X : XQ} {Y : Sl → XQ} {Pn : Sl → SS → Prop}
/-! the best pair -/
theorem blw_tr {a b c : Int × Int} (ha : 0 < a.2) (hb : 0 < b.2) (hc : 0 < c.2) (h1 : blw a b = true) (h2 : blw c b = false) : blw c a = false := by
  unfold blw at *
  rw [decide_eq_true_eq] at h1
  rw [decide_eq_false_iff_not] at h2 ⊢
  intro h3
  obtain ⟨a1, a2⟩ := a
  obtain ⟨b1, b2⟩ := b
  obtain ⟨c1, c2⟩ := c
  simp only at *
  have k1 : a1 * b2 * c2 < b1 * a2 * c2 := Int.mul_lt_mul_of_pos_right h1 hc
  have k2 : c1 * a2 * b2 < a1 * c2 * b2 := Int.mul_lt_mul_of_pos_right h3 hb
  have k3 : b1 * c2 * a2 ≤ c1 * b2 * a2 := Int.mul_le_mul_of_nonneg_right (by omega) (by omega)
  have e1 : a1 * b2 * c2 = a1 * c2 * b2 := by grind
  have e2 : b1 * a2 * c2 = b1 * c2 * a2 := by grind
  have e3 : c1 * a2 * b2 = c1 * b2 * a2 := by grind
  omega
abbrev cf (p d : Nat) : Int × Int := fp (1 + nI p) (1 + nI d)
theorem cf_fr {p d : Nat} (hp : p < 10) (hd : d < 10) : Fr (cf p d) := by
  have e1 := nu_le (a := 1 + nI p) (b := 1 + nI d) (by rw [nI_eq (n := d)]; omega)
  have e2 := de_le (a := 1 + nI p) (b := 1 + nI d) (by rw [nI_eq (n := d)]; omega)
  have e3 := de_one (a := 1 + nI p) (b := 1 + nI d) (by rw [nI_eq (n := d)]; omega)
  have e4 := fp_sign (a := 1 + nI p) (b := 1 + nI d) (by rw [nI_eq]; omega)
  have e5 := fp_zero (g := 1 + nI p) (B := 1 + nI d) (by rw [nI_eq]; omega)
  have hp' : 0 ≤ nI p ∧ nI p < 10 := by rw [nI_eq]; omega
  have hd' : 0 ≤ nI d ∧ nI d < 10 := by rw [nI_eq]; omega
  have nz : (cf p d).1 ≠ 0 := fun h => by
    obtain ⟨g, hg, g1, g2⟩ := fp_parts (A := 1 + nI p) (B := 1 + nI d) (by omega)
    have h : (fp (1 + nI p) (1 + nI d)).1 = 0 := h
    rw [h, Int.mul_zero] at g1
    omega
  have s := e4.mpr (by omega)
  refine ⟨?_, ?_, ?_, ?_⟩
  · have : 0 ≤ (cf p d).1 := s
    omega
  · show nu _ _ ≤ 1000
    omega
  · exact e3
  · show de _ _ ≤ 1000
    omega
/-- least of all pairs -/
def Lst (n : Nat) (r : Int × Int) (p d : Nat) : Prop := ∀ p' d', p' < n → d' < n → p' ≠ d' → blw (gpF (cf p' d') r) (gpF (cf p d) r) = false
theorem best_sat {n : Nat} {r : Int × Int} (hr : Rt r) (fr : Fr r) (h2 : 2 ≤ n) (hn : n ≤ 10) (k : ∀ p d l, p < n → d < n → p ≠ d → Lst n r p d → P (ch p d) (S ++ l)) : Sat (F_best_train C [pr r, skD n, .int 1] S) P := by
  rw [sem_best_train]
  refine XSat.s (x_fn ?_)
  unfold B_best_train
  simp only [startD, List.getElem?_cons_succ, List.getElem?_cons_zero, List.set_cons_succ, List.set_cons_zero, List.length_cons, List.length_nil, List.map_cons, List.map_nil, List.cons_append, List.nil_append, List.replicate, Nat.reduceAdd, Nat.zero_add, true_and]
  rw [x_seq, x_drop]
  simp only [xe_call, xa_cons, xa_nil, xe_var, List.getElem?_cons_succ, List.getElem?_cons_zero, List.set_cons_succ, List.set_cons_zero, List.length_cons, List.length_nil, List.map_cons, List.map_nil, List.cons_append, List.nil_append, List.replicate, Nat.reduceAdd, Nat.zero_add, true_and]
  refine demand_ratio_x rfl (fun z => absurd z (by rw [rtB_pr.mpr hr]; decide)) fun _ l => ?_
  rw [x_seq, x_drop]
  simp only [xe_call, xa_cons, xa_nil, xe_var, List.getElem?_cons_succ, List.getElem?_cons_zero, List.set_cons_succ, List.set_cons_zero, List.length_cons, List.length_nil, List.map_cons, List.map_nil, List.cons_append, List.nil_append, List.replicate, Nat.reduceAdd, Nat.zero_add, true_and]
  refine (demand_stock_sat h2 hn fun l2 => ?_).x
  rw [x_seq, x_asg1, xe_c, x_seq]
  refine x_for ?_
  simp only [xit_val, xe_call, xa_cons, xa_nil, xe_var, List.getElem?_cons_succ, List.getElem?_cons_zero, List.set_cons_succ, List.set_cons_zero, List.length_cons, List.length_nil, List.map_cons, List.map_nil, List.cons_append, List.nil_append, List.replicate, Nat.reduceAdd, Nat.zero_add, true_and]
  refine (choices_sat hn fun j F l3 hj hF1 hF2 hFl => ?_).x
  rw [iter_ref hj]
  rw [List.append_assoc, List.append_assoc] at hj ⊢
  generalize l ++ (l2 ++ l3) = l4 at *
  refine ⟨fun i δ S' => S' = S ++ l4 ∧ ∃ o3 o4 o5, δ = [some (pr r), some (skD n), some (.int 1), o3, o4, o5] ∧ ((i = 0 ∧ o3 = some .non) ∨ ∃ p d, p < n ∧ d < n ∧ p ≠ d ∧ o3 = some (.tup [pr (gpF (cf p d) r), ch p d]) ∧ ∀ p' d', p' < n → d' < n → p' ≠ d' → ch p' d' ∈ F.take i → blw (gpF (cf p' d') r) (gpF (cf p d) r) = false), ⟨rfl, _, _, _, rfl, .inl ⟨rfl, rfl⟩⟩, ?_, ?_⟩
  · rintro i x δ S' hi ⟨rfl, o3, o4, o5, rfl, hb⟩
    obtain ⟨p, d, hp, hd, hne, rfl⟩ := hF1 x (List.mem_of_getElem? hi)
    have fc := cf_fr (p := p) (d := d) (by omega) (by omega)
    have et : F.take (i + 1) = F.take i ++ [ch p d] := by
      rw [List.take_add_one, hi]
      rfl
    have inj : ∀ p' d', ch p' d' = ch p d → p' = p ∧ d' = d := fun p' d' h => by
      unfold ch at h
      injection h with h
      injection h with h1 h
      injection h with h2 h
      injection h1 with h1
      injection h1 with h1
      injection h2 with h2
      injection h2 with h2
      injection h1 with h1
      injection h2 with h2
      rw [nI_eq, nI_eq] at h1 h2
      omega
    refine ⟨⟨hj, trivial⟩, _, rfl, ?_⟩
    simp only [List.getElem?_cons_succ, List.getElem?_cons_zero, List.set_cons_succ, List.set_cons_zero, List.length_cons, List.length_nil, List.map_cons, List.map_nil, List.cons_append, List.nil_append, List.replicate, Nat.reduceAdd, Nat.zero_add, true_and]
    rw [x_seq, x_asg1]
    have e2 : ∀ (S : SS) (P : D → SS → Prop), SatO (ixD (ch p d) (.int 2) S) P = P (pr (cf p d)) S := fun S P => rfl
    simp only [xe_call, xe_op2, xa_cons, xa_nil, xe_var, xe_c, e2, List.getElem?_cons_succ, List.getElem?_cons_zero, List.set_cons_succ, List.set_cons_zero, List.length_cons, List.length_nil, List.map_cons, List.map_nil, List.cons_append, List.nil_append, List.replicate, Nat.reduceAdd, Nat.zero_add, true_and]
    refine (far_from_sat fr fc ?_).x
    have sm1 := gpF_sm fc fr
    rw [x_seq, x_if]
    simp only [xt_or, xt_val, xt_tru, xe_op2, xe_var, xe_c, so_is_non, List.getElem?_cons_succ, List.getElem?_cons_zero, List.set_cons_succ, List.set_cons_zero, List.length_cons, List.length_nil, List.map_cons, List.map_nil, List.cons_append, List.nil_append, List.replicate, Nat.reduceAdd, Nat.zero_add, true_and]
    rcases hb with ⟨rfl, rfl⟩ | ⟨p0, d0, hp0, hd0, hne0, rfl, hmin⟩
    · simp only [xe_var, so_is_non, isNon, boolOf_bl, if_true, List.getElem?_cons_succ, List.getElem?_cons_zero, List.set_cons_succ, List.set_cons_zero, List.length_cons, List.length_nil, List.map_cons, List.map_nil, List.cons_append, List.nil_append, List.replicate, Nat.reduceAdd, Nat.zero_add, true_and]
      rw [x_seq, x_asg1]
      simp only [xe_tup2, xe_var, x_nil, List.getElem?_cons_succ, List.getElem?_cons_zero, List.set_cons_succ, List.set_cons_zero, List.length_cons, List.length_nil, List.map_cons, List.map_nil, List.cons_append, List.nil_append, List.replicate, Nat.reduceAdd, Nat.zero_add, true_and]
      refine ⟨_, _, _, rfl, .inr ⟨p, d, hp, hd, hne, rfl, fun p' d' _ _ _ hin => ?_⟩⟩
      rw [et] at hin
      have : ch p' d' = ch p d := by simpa using hin
      obtain ⟨rfl, rfl⟩ := inj _ _ this
      unfold blw
      exact decide_eq_false (Int.lt_irrefl _)
    · have fc0 := cf_fr (p := p0) (d := d0) (by omega) (by omega)
      have sm0 := gpF_sm fc0 fr
      simp only [xe_var, so_is_non, isNon, boolOf_bl, Bool.false_eq_true, if_false, xe_call, xe_op2, xa_cons, xa_nil, xe_c, so_ix0, List.getElem?_cons_succ, List.getElem?_cons_zero, List.set_cons_succ, List.set_cons_zero, List.length_cons, List.length_nil, List.map_cons, List.map_nil, List.cons_append, List.nil_append, List.replicate, Nat.reduceAdd, Nat.zero_add, true_and]
      refine (is_below_sat (a := gpF (cf p d) r) (b := gpF (cf p0 d0) r) (sm1.up (by decide)) (sm0.up (by decide)) ?_).x
      simp only [tru_bl]
      cases hc : blw (gpF (cf p d) r) (gpF (cf p0 d0) r) with
      | true =>
        simp only [if_true]
        rw [x_seq, x_asg1]
        simp only [xe_tup2, xe_var, x_nil, List.getElem?_cons_succ, List.getElem?_cons_zero, List.set_cons_succ, List.set_cons_zero, List.length_cons, List.length_nil, List.map_cons, List.map_nil, List.cons_append, List.nil_append, List.replicate, Nat.reduceAdd, Nat.zero_add, true_and]
        refine ⟨_, _, _, rfl, .inr ⟨p, d, hp, hd, hne, rfl, fun p' d' h1 h2 h3 hin => ?_⟩⟩
        rw [et] at hin
        rcases List.mem_append.mp hin with hin | hin
        · have sm2 := gpF_sm (cf_fr (p := p') (d := d') (by omega) (by omega)) fr
          exact blw_tr sm1.z sm0.z sm2.z hc (hmin p' d' h1 h2 h3 hin)
        · have : ch p' d' = ch p d := by simpa using hin
          obtain ⟨rfl, rfl⟩ := inj _ _ this
          unfold blw
          exact decide_eq_false (Int.lt_irrefl _)
      | false =>
        simp only [Bool.false_eq_true, if_false, x_nil]
        refine ⟨trivial, _, _, _, rfl, .inr ⟨p0, d0, hp0, hd0, hne0, rfl, fun p' d' h1 h2 h3 hin => ?_⟩⟩
        rw [et] at hin
        rcases List.mem_append.mp hin with hin | hin
        · exact hmin p' d' h1 h2 h3 hin
        · have : ch p' d' = ch p d := by simpa using hin
          obtain ⟨rfl, rfl⟩ := inj _ _ this
          exact hc
  · rintro δ S' ⟨rfl, o3, o4, o5, rfl, hb⟩
    refine ⟨⟨hj, trivial⟩, ?_⟩
    rw [List.take_length] at hb
    rcases hb with ⟨h0, _⟩ | ⟨p, d, hp, hd, hne, rfl, hmin⟩
    · have h0 : F.length = 0 := h0
      have := List.length_pos_iff.mpr (List.ne_nil_of_mem (hF2 0 1 (by omega) (by omega) (by decide)))
      omega
    · rw [x_seq, x_ret]
      simp only [xe_op2, xe_var, xe_c, so_ix1, List.getElem?_cons_succ, List.getElem?_cons_zero, List.set_cons_succ, List.set_cons_zero, List.length_cons, List.length_nil, List.map_cons, List.map_nil, List.cons_append, List.nil_append, List.replicate, Nat.reduceAdd, Nat.zero_add, true_and]
      exact k p d l4 hp hd hne fun p' d' h1 h2 h3 => hmin p' d' h1 h2 h3 (hF2 p' d' h1 h2 h3)
end
end K27
set_option Elab.async false
set_option linter.all false
set_option maxRecDepth 100000
set_option maxHeartbeats 2000000
namespace K27
open PySem L2 DL
section
variable {C : CA} {S : SS} {P : D → SS → Prop} {X : XQ} {Y : Sl → XQ} {Pn : Sl → SS → Prop} {q : Nat}
/-! the law's pieces -/
noncomputable def w0 (C : CA) : PSt := (sAsg (eCall (F_l_draws C) 1 (aCons (eVar 0) aNil)) (.one 1))
noncomputable def w1 (C : CA) : PSt := (sAsg (eLst (aCons (eC (.int 0)) aNil)) (.one 2))
noncomputable def v0 (C : CA) : PSt := (sAsg (eCall (F_l_fraction C) 2 (aCons (eOp2 (binD .Add) (eC (.int 1)) (eCall (F_l_take C) 3 (aCons (eVar 1) (aCons (eVar 2) (aCons (eC (.int 100)) aNil))))) (aCons (eOp2 (binD .Add) (eC (.int 1)) (eCall (F_l_take C) 3 (aCons (eVar 1) (aCons (eVar 2) (aCons (eC (.int 100)) aNil))))) aNil))) (.one 4))
noncomputable def v1 (C : CA) : PSt := (sAsg (eOp2 (binD .Add) (eC (.int 3)) (eCall (F_l_take C) 3 (aCons (eVar 1) (aCons (eVar 2) (aCons (eC (.int 4)) aNil))))) (.one 5))
noncomputable def v2 (C : CA) : PSt := (sAsg (eOp2 tupRg2D (eC (.int 1)) (eOp2 (binD .Add) (eVar 5) (eC (.int 1)))) (.one 6))
noncomputable def v3 (C : CA) : PSt := (sAsg (eCall (F_nearest C) 2 (aCons (eVar 4) (aCons (eVar 5) aNil))) (.one 7))
noncomputable def v4 (C : CA) : PSt := (sAsg (eCall (F_best_train C) 3 (aCons (eVar 4) (aCons (eVar 6) (aCons (eC (.int 1)) aNil)))) (.one 8))
noncomputable def v5 (C : CA) : PSt := (sIf (tAnd' (tVal (eOp2 (cmpD .NotEq) (eVar 7) (eTup (aCons (eC (.int 1)) (aCons (eC (.int 1)) aNil))))) (tVal (eOp2 (cmpD .NotEq) (eCall (F_l_gap C) 2 (aCons (eVar 7) (aCons (eVar 4) aNil))) (eCall (F_l_gap C) 2 (aCons (eOp2 ixD (eVar 8) (eC (.int 2))) (aCons (eVar 4) aNil)))))) (sSeq (sRet (eC (.bl false))) sNil) sNil)
noncomputable def v6 (C : CA) : PSt := (sAsg (eOp2 (binD .Add) (eC (.int 2)) (eCall (F_l_take C) 3 (aCons (eVar 1) (aCons (eVar 2) (aCons (eC (.int 30)) aNil))))) (.one 9))
noncomputable def v7 (C : CA) : PSt := (sAsg (eCall (F_around C) 2 (aCons (eVar 4) (aCons (eVar 9) aNil))) (.many [12, 13]))
noncomputable def v8 (C : CA) : PSt := (sIf (tAnd' (tVal (eOp2 (cmpD .Lt) (eOp2 ixD (eVar 4) (eC (.int 0))) (eOp2 ixD (eVar 4) (eC (.int 1))))) (tAnd' (tVal (eOp2 (cmpD .IsNot) (eVar 12) (eC .non))) (tAnd' (tVal (eOp2 (cmpD .IsNot) (eVar 13) (eC .non))) (tVal (eOp2 (cmpD .NotEq) (eVar 12) (eVar 13)))))) (sSeq (sIf (tOr' (tVal (eOp2 (cmpD .NotEq) (eCB (one reprD) (aCons (eCall (F_next_part C) 2 (aCons (eVar 9) (aCons (eVar 12) aNil))) aNil)) (eCB (one reprD) (aCons (eVar 13) aNil)))) (tOr' (tNot' (tTru (eCall (F_are_neighbours C) 2 (aCons (eVar 12) (aCons (eVar 13) aNil))))) (tVal (eOp2 (cmpD .NotIn) (eVar 13) (eCall (F_all_parts C) 1 (aCons (eVar 9) aNil)))))) (sSeq (sRet (eC (.bl false))) sNil) sNil) sNil) sNil)
noncomputable def v9 (C : CA) : PSt := (sAsg (eCall (F_stages C) 1 (aCons (eVar 4) aNil)) (.one 10))
noncomputable def v10 (C : CA) : PSt := (sIf (tOr' (tVal (eOp2 (cmpD .NotEq) (eOp2 ixD (eVar 10) (eOp2 (binD .Sub) (eCB (one lenD) (aCons (eVar 10) aNil)) (eC (.int 1)))) (eVar 4))) (tVal (eOp2 (cmpD .NotEq) (eCall (F_error C) 2 (aCons (eVar 4) (aCons (eVar 4) aNil))) (eTup (aCons (eC (.int 0)) (aCons (eC (.int 1)) aNil)))))) (sSeq (sRet (eC (.bl false))) sNil) sNil)
noncomputable def v11 (C : CA) : PSt := (sFor (iOn rng1D (aCons (eOp2 (binD .Sub) (eCB (one lenD) (aCons (eVar 10) aNil)) (eC (.int 1))) aNil)) (.one 11) (sSeq (sIf (tOr' (tVal (eOp2 (cmpD .IsNot) (eCall (F_are_neighbours C) 2 (aCons (eOp2 ixD (eVar 10) (eVar 11)) (aCons (eOp2 ixD (eVar 10) (eOp2 (binD .Add) (eVar 11) (eC (.int 1)))) aNil))) (eC (.bl true)))) (tNot' (tTru (eCall (F_l_less C) 2 (aCons (eCall (F_l_gap C) 2 (aCons (eOp2 ixD (eVar 10) (eOp2 (binD .Add) (eVar 11) (eC (.int 1)))) (aCons (eVar 4) aNil))) (aCons (eCall (F_l_gap C) 2 (aCons (eOp2 ixD (eVar 10) (eVar 11)) (aCons (eVar 4) aNil))) aNil)))))) (sSeq (sRet (eC (.bl false))) sNil) sNil) sNil))
noncomputable def v12 (C : CA) : PSt := (sAsg (eCall (F_parents C) 1 (aCons (eVar 4) aNil)) (.many [14, 15]))
noncomputable def v13 (C : CA) : PSt := (sIf (tVal (eOp2 (cmpD .NotEq) (eTup (aCons (eOp2 (binD .Add) (eOp2 ixD (eVar 14) (eC (.int 0))) (eOp2 ixD (eVar 15) (eC (.int 0)))) (aCons (eOp2 (binD .Add) (eOp2 ixD (eVar 14) (eC (.int 1))) (eOp2 ixD (eVar 15) (eC (.int 1)))) aNil))) (eVar 4))) (sSeq (sRet (eC (.bl false))) sNil) sNil)
noncomputable def vB (C : CA) : PSt := (sSeq (v0 C) (sSeq (v1 C) (sSeq (v2 C) (sSeq (v3 C) (sSeq (v4 C) (sSeq (v5 C) (sSeq (v6 C) (sSeq (v7 C) (sSeq (v8 C) (sSeq (v9 C) (sSeq (v10 C) (sSeq (v11 C) (sSeq (v12 C) (sSeq (v13 C) sNil))))))))))))))
noncomputable def w2 (C : CA) : PSt := (sFor (iOn rng1D (aCons (eC (.int 3)) aNil)) (.one 3) (vB C))
noncomputable def w3 (C : CA) : PSt := (sRet (eC (.bl true)))
noncomputable def wT4 (C : CA) : PSt := sNil
noncomputable def wT3 (C : CA) : PSt := sSeq (w3 C) (wT4 C)
noncomputable def wT2 (C : CA) : PSt := sSeq (w2 C) (wT3 C)
noncomputable def wT1 (C : CA) : PSt := sSeq (w1 C) (wT2 C)
noncomputable def wT0 (C : CA) : PSt := sSeq (w0 C) (wT1 C)
theorem wT_eq (C : CA) : B_law C = wT0 C := rfl
abbrev sl (a0 : D) (o3 o4 o5 o6 o7 o8 o9 o10 o11 o12 o13 o14 o15 : Option D) : Sl := [some a0, some (.ref 0), some (.ref 2), o3, o4, o5, o6, o7, o8, o9, o10, o11, o12, o13, o14, o15]
structure RR (r : Int × Int) : Prop where
  t : Rt r
  a : r.1 ≤ 100
  b : r.2 ≤ 100
theorem RR.fr {r : Int × Int} (h : RR r) : Fr r := ⟨h.t.a1, by have := h.a; omega, h.t.b1, by have := h.b; omega⟩
theorem RR.bd {r : Int × Int} (h : RR r) : Bd 120 r := ⟨h.t.a1, by have := h.a; omega, h.t.b1, by have := h.b; omega, h.t.co⟩
theorem rr_fp {x y : Int} (x0 : 1 ≤ x) (x1 : x ≤ 100) (y0 : 1 ≤ y) (y1 : y ≤ 100) : RR (fp x y) := by
  have e1 := nu_le (a := x) (b := y) (by omega)
  have e2 := de_le (a := x) (b := y) (by omega)
  have e3 := de_one (a := x) (b := y) (by omega)
  have s := (fp_sign (a := x) (b := y) (by omega)).mpr (by omega)
  have nz : (fp x y).1 ≠ 0 := fun h => by
    obtain ⟨g, hg, g1, g2⟩ := fp_parts (A := x) (B := y) (by omega)
    rw [h, Int.mul_zero] at g1
    omega
  have u1 : (fp x y).1 ≤ 100 := by show nu x y ≤ 100; omega
  have u2 : (fp x y).2 ≤ 100 := by show de x y ≤ 100; omega
  exact ⟨⟨by omega, by omega, e3, by omega, fp_gcd (by omega)⟩, u1, u2⟩
theorem v0_sat {R : PSt} {a0 : D} {o3 o4 o5 o6 o7 o8 o9 o10 o11 o12 o13 o14 o15 : Option D} (da : DA S 0 2 q) (hq : q ≤ 1000000000) (k : ∀ r S', RR r → DA S' 0 2 (q + 2) → XR (R (sl a0 o3 (some (pr r)) o5 o6 o7 o8 o9 o10 o11 o12 o13 o14 o15) S') Pn P Y) : XR (sSeq (v0 C) R (sl a0 o3 o4 o5 o6 o7 o8 o9 o10 o11 o12 o13 o14 o15) S) Pn P Y := by
  rw [x_seq]
  unfold v0
  simp only [x_asg1, xe_call, xe_op2, xa_cons, xa_nil, xe_var, xe_c, List.getElem?_cons_succ, List.getElem?_cons_zero, List.set_cons_succ, List.set_cons_zero, List.length_cons, List.length_nil, List.map_cons, List.map_nil, List.cons_append, List.nil_append, List.replicate, Nat.reduceAdd, Nat.zero_add, true_and]
  refine (l_take_sat da (by omega) (by decide) fun x S1 x0 x1 up1 len1 da1 => ?_).x
  simp only [so_add]
  refine (l_take_sat da1 (by omega) (by decide) fun y S2 y0 y1 up2 len2 da2 => ?_).x
  simp only [so_add]
  have s1 : (1 + x).natAbs < 2 ^ 10 := by omega
  have s2 : (1 + y).natAbs < 2 ^ 10 := by omega
  refine (l_fraction_sat (by omega) (two_lt s1 (by decide)) (two_lt s2 (by decide)) ?_).x
  exact k (fp (1 + x) (1 + y)) S2 (rr_fp (by omega) (by omega) (by omega) (by omega)) da2
theorem pr_inj {a b : Int × Int} (h : pr a = pr b) : a = b := by
  obtain ⟨h1, h2⟩ := DL.pr_inj h
  exact Prod.ext h1 h2
theorem v1_sat {R : PSt} {r : Int × Int} (hr : RR r) {a0 : D} {o3 o5 o6 o7 o8 o9 o10 o11 o12 o13 o14 o15 : Option D} (da : DA S 0 2 q) (hq : q ≤ 1000000000)
    (k : ∀ n f p d S', 2 ≤ n → n ≤ 10 → Best (nI n) r f → p < n → d < n → p ≠ d → Lst n r p d → DA S' 0 2 (q + 1) → XR (R (sl a0 o3 (some (pr r)) (some (.int (nI n))) (some (skD n)) (some (pr f)) (some (ch p d)) o9 o10 o11 o12 o13 o14 o15) S') Pn P Y) : XR (sSeq (v1 C) (sSeq (v2 C) (sSeq (v3 C) (sSeq (v4 C) R))) (sl a0 o3 (some (pr r)) o5 o6 o7 o8 o9 o10 o11 o12 o13 o14 o15) S) Pn P Y := by
  rw [x_seq]
  unfold v1
  simp only [x_asg1, xe_call, xe_op2, xa_cons, xa_nil, xe_var, xe_c, List.getElem?_cons_succ, List.getElem?_cons_zero, List.set_cons_succ, List.set_cons_zero, List.length_cons, List.length_nil, List.map_cons, List.map_nil, List.cons_append, List.nil_append, List.replicate, Nat.reduceAdd, Nat.zero_add, true_and]
  refine (l_take_sat da (by omega) (by decide) fun x S1 x0 x1 up1 len1 da1 => ?_).x
  simp only [so_add]
  obtain ⟨n, hn, hn'⟩ := nat_of (show 0 ≤ 3 + x by omega)
  rw [hn, x_seq]
  unfold v2
  simp only [x_asg1, xe_op2, xe_var, xe_c, so_add, List.getElem?_cons_succ, List.getElem?_cons_zero, List.set_cons_succ, List.set_cons_zero, List.length_cons, List.length_nil, List.map_cons, List.map_nil, List.cons_append, List.nil_append, List.replicate, Nat.reduceAdd, Nat.zero_add, true_and]
  have hsk : ∀ P : D → SS → Prop, SatO (tupRg2D (.int 1) (.int (nI n + 1)) S1) P = P (skD n) S1 := fun P => by
    have hr : RgOk 1 (nI n + 1) := by
      unfold RgOk
      rw [nI_eq]
      omega
    have e : tupRg2D (.int 1) (.int (nI n + 1)) S1 = some (.tup (rngItems 1 (nI n + 1 - 1).toNat 1), S1) := if_pos hr
    rw [e]
    have e2 : D.tup (rngItems 1 (nI n + 1 - 1).toNat 1) = skD n := by
      rw [skD_eq]
      have : (nI n + 1 - 1).toNat = n := by rw [nI_eq]; omega
      rw [this]
      unfold rngItems
      congr 1
      refine List.map_congr_left fun i _ => ?_
      rw [nI_eq]
      congr 1
      omega
    rw [e2]
    rfl
  rw [hsk, x_seq]
  unfold v3
  simp only [x_asg1, xe_call, xa_cons, xa_nil, xe_var, List.getElem?_cons_succ, List.getElem?_cons_zero, List.set_cons_succ, List.set_cons_zero, List.length_cons, List.length_nil, List.map_cons, List.map_nil, List.cons_append, List.nil_append, List.replicate, Nat.reduceAdd, Nat.zero_add, true_and]
  refine nearest_x rfl rfl (fun z => absurd z (by rw [rtB_pr.mpr hr.t]; decide)) (fun _ z => absurd z (by rw [isR_of (by omega) (by omega)]; decide)) fun r' m e1 _ e2 _ _ t l ht => ?_
  have e1 := pr_inj e1
  subst e1
  injection e2 with e2
  subst e2
  obtain ⟨f, hf, hb⟩ := near_best hr.t (by omega) ht
  rw [hf, x_seq]
  unfold v4
  simp only [x_asg1, xe_call, xa_cons, xa_nil, xe_var, xe_c, List.getElem?_cons_succ, List.getElem?_cons_zero, List.set_cons_succ, List.set_cons_zero, List.length_cons, List.length_nil, List.map_cons, List.map_nil, List.cons_append, List.nil_append, List.replicate, Nat.reduceAdd, Nat.zero_add, true_and]
  refine (best_sat hr.t hr.fr (by omega) (by omega) fun p d l' hp hd hne hl => ?_).x
  exact k n f p d _ (by omega) (by omega) hb hp hd hne hl da1.app.app
theorem v5_sat {R : PSt} {n p d : Nat} {r f : Int × Int} (hr : RR r) (hn : n ≤ 10) (hb : Best (nI n) r f) (hp : p < n) (hd : d < n) (hne : p ≠ d) (hl : Lst n r p d) {a0 : D} {o3 o5 o6 o9 o10 o11 o12 o13 o14 o15 : Option D}
    (k : XR (R (sl a0 o3 (some (pr r)) o5 o6 (some (pr f)) (some (ch p d)) o9 o10 o11 o12 o13 o14 o15) S) Pn P Y) : XR (sSeq (v5 C) R (sl a0 o3 (some (pr r)) o5 o6 (some (pr f)) (some (ch p d)) o9 o10 o11 o12 o13 o14 o15) S) Pn P Y := by
  rw [x_seq]
  unfold v5
  have e1 : ∀ (S : SS) (P : D → SS → Prop), SatO (cmpD .NotEq (pr f) (.tup [.int 1, .int 1]) S) P = P (.bl (!decide (f = ((1, 1) : Int × Int)))) S := fun S P => ne_pr (b := (1, 1))
  have e2 : ∀ (S : SS) (P : D → SS → Prop), SatO (ixD (ch p d) (.int 2) S) P = P (pr (cf p d)) S := fun S P => rfl
  simp only [x_if, xt_and, xt_val, xe_op2, xe_tup2, xe_call, xa_cons, xa_nil, xe_var, xe_c, e1, boolOf_bl, List.getElem?_cons_succ, List.getElem?_cons_zero, List.set_cons_succ, List.set_cons_zero, List.length_cons, List.length_nil, List.map_cons, List.map_nil, List.cons_append, List.nil_append, List.replicate, Nat.reduceAdd, Nat.zero_add, true_and]
  by_cases h1 : f = ((1, 1) : Int × Int)
  · rw [decide_eq_true h1]
    simp only [Bool.not_true, Bool.false_eq_true, if_false, x_nil]
    exact k
  · rw [decide_eq_false h1]
    simp only [Bool.not_false, if_true]
    have a1 := hb.bd.a1; have a2 := hb.bd.a2; have b1 := hb.bd.b1; have b2 := hb.bd.b2
    have hn' : nI n ≤ 10 := by rw [nI_eq]; omega
    have ff : Fr f := ⟨a1, by omega, b1, by omega⟩
    have fc := cf_fr (p := p) (d := d) (by omega) (by omega)
    refine (l_gap_sat hr.fr ff ?_).x
    simp only [e2]
    refine (l_gap_sat hr.fr fc ?_).x
    -- the nearest one is a pair, too
    have hbc : Bd (nI n) (cf p d) := by
      have e1 := nu_le (a := 1 + nI p) (b := 1 + nI d) (by rw [nI_eq (n := d)]; omega)
      have e2 := de_le (a := 1 + nI p) (b := 1 + nI d) (by rw [nI_eq (n := d)]; omega)
      have x1 := fc.a1
      have x2 := fc.b1
      have y1 : 0 ≤ nI p ∧ 1 + nI p ≤ nI n := by rw [nI_eq, nI_eq]; omega
      have y2 : 0 ≤ nI d ∧ 1 + nI d ≤ nI n := by rw [nI_eq, nI_eq]; omega
      refine ⟨x1, ?_, x2, ?_, fp_gcd (by omega)⟩
      · show nu _ _ ≤ _
        have : 1 ≤ nu (1 + nI p) (1 + nI d) := x1
        omega
      · show de _ _ ≤ _
        have : 1 ≤ de (1 + nI p) (1 + nI d) := x2
        omega
    have hff : blw (gpF f r) (gpF (cf p d) r) = false := by
      have c1 : ((f.1 - 1).toNat : Int) = f.1 - 1 := by omega
      have c2 : ((f.2 - 1).toNat : Int) = f.2 - 1 := by omega
      have hcf : cf (f.1 - 1).toNat (f.2 - 1).toNat = f := by
        unfold cf
        rw [nI_eq, nI_eq, c1, c2, show 1 + (f.1 - 1) = f.1 by omega, show 1 + (f.2 - 1) = f.2 by omega, fp_co (by omega) hb.bd.co]
      have nn : nI n = (n : Int) := nI_eq
      have := hl (f.1 - 1).toNat (f.2 - 1).toNat (by omega) (by omega) (fun e => h1 (by
        have : f.1 = f.2 := by omega
        have co := hb.bd.co
        rw [this, Int.gcd_self] at co
        exact Prod.ext (by show f.1 = 1; omega) (by show f.2 = 1; omega)))
      rw [hcf] at this
      exact this
    have eq := best_eq hr.t hb hbc hff
    rw [eq, ne_pr, decide_eq_true rfl]
    simp only [boolOf_bl, Bool.not_true, Bool.false_eq_true, if_false, x_nil]
    exact k
end
end K27
set_option Elab.async false
set_option linter.all false
set_option maxRecDepth 100000
set_option maxHeartbeats 2000000
namespace K27
open PySem L2 DL
section
variable {C : CA} {S : SS} {P : D → SS → Prop} {X : XQ} {Y : Sl → XQ} {Pn : Sl → SS → Prop} {q : Nat}
theorem pr_nice {n : Nat} {a : Int × Int} (h : Sm n a) (hn : n ≤ 1900) : Nice (pr a) := ⟨⟨nice_int h.l hn, nice_int h.r hn, trivial⟩, Nat.le_of_ble_eq_true (by kernel_rfl), Nat.le_of_ble_eq_true (by kernel_rfl)⟩
theorem v6_sat {R : PSt} {r : Int × Int} (hr : RR r) {a0 : D} {o3 o5 o6 o7 o8 o9 o10 o11 o12 o13 o14 o15 : Option D} (da : DA S 0 2 q) (hq : q ≤ 1000000000)
    (k : ∀ m t S', 2 ≤ m → m ≤ 31 → Arnd r m t → DA S' 0 2 (q + 1) → XR (R (sl a0 o3 (some (pr r)) o5 o6 o7 o8 (some (.int m)) o10 o11 (some (oD t.1)) (some (oD t.2)) o14 o15) S') Pn P Y) : XR (sSeq (v6 C) (sSeq (v7 C) R) (sl a0 o3 (some (pr r)) o5 o6 o7 o8 o9 o10 o11 o12 o13 o14 o15) S) Pn P Y := by
  rw [x_seq]
  unfold v6
  simp only [x_asg1, xe_call, xe_op2, xa_cons, xa_nil, xe_var, xe_c, List.getElem?_cons_succ, List.getElem?_cons_zero, List.set_cons_succ, List.set_cons_zero, List.length_cons, List.length_nil, List.map_cons, List.map_nil, List.cons_append, List.nil_append, List.replicate, Nat.reduceAdd, Nat.zero_add, true_and]
  refine (l_take_sat da (by omega) (by decide) fun x S1 x0 x1 up1 len1 da1 => ?_).x
  simp only [so_add]
  rw [x_seq]
  unfold v7
  rw [x_asgN]
  simp only [xe_call, xa_cons, xa_nil, xe_var, List.getElem?_cons_succ, List.getElem?_cons_zero, List.set_cons_succ, List.set_cons_zero, List.length_cons, List.length_nil, List.map_cons, List.map_nil, List.cons_append, List.nil_append, List.replicate, Nat.reduceAdd, Nat.zero_add, true_and]
  refine around_x rfl rfl (fun z => absurd z (by rw [rtB_pr.mpr hr.t]; decide)) (fun _ z => absurd z (by rw [isR_of (by omega) (by omega)]; decide)) fun r' m e1 _ e2 _ _ t l ht => ?_
  have e1 := pr_inj e1
  subst e1
  injection e2 with e2
  subst e2
  simp only [bind_many2, List.getElem?_cons_succ, List.getElem?_cons_zero, List.set_cons_succ, List.set_cons_zero, List.length_cons, List.length_nil, List.map_cons, List.map_nil, List.cons_append, List.nil_append, List.replicate, Nat.reduceAdd, Nat.zero_add, true_and]
  exact k (2 + x) t _ (by omega) (by omega) ht da1.app
theorem v8_sat {R : PSt} {r : Int × Int} {m : Int} {t : OP × OP} (hr : RR r) (m2 : 2 ≤ m) (m31 : m ≤ 31) (ht : Arnd r m t) {a0 : D} {o3 o5 o6 o7 o8 o10 o11 o14 o15 : Option D}
    (k : ∀ l, XR (R (sl a0 o3 (some (pr r)) o5 o6 o7 o8 (some (.int m)) o10 o11 (some (oD t.1)) (some (oD t.2)) o14 o15) (S ++ l)) Pn P Y) : XR (sSeq (v8 C) R (sl a0 o3 (some (pr r)) o5 o6 o7 o8 (some (.int m)) o10 o11 (some (oD t.1)) (some (oD t.2)) o14 o15) S) Pn P Y := by
  have k0 := k []
  rw [List.append_nil] at k0
  rw [x_seq]
  unfold v8
  simp only [x_if, xt_and, xt_val, xe_op2, xe_var, xe_c, so_ix0, so_ix1, so_lt, so_isnot_non, boolOf_bl, List.getElem?_cons_succ, List.getElem?_cons_zero, List.set_cons_succ, List.set_cons_zero, List.length_cons, List.length_nil, List.map_cons, List.map_nil, List.cons_append, List.nil_append, List.replicate, Nat.reduceAdd, Nat.zero_add, true_and]
  by_cases hlt : r.1 < r.2
  · rw [decide_eq_true hlt]
    simp only [if_true]
    have hnn : isNon (oD none) = true := rfl
    have hnp : ∀ p : Int × Int, isNon (oD (some p)) = false := fun p => rfl
    rcases ht with ⟨hm, rfl⟩ | ⟨hm, a, b, c, d, hn, rfl⟩
    · simp only [hnp, Bool.not_false, if_true]
      have e : ∀ P : D → SS → Prop, SatO (cmpD .NotEq (oD (some r)) (oD (some r)) S) P = P (.bl (!decide (r = r))) S := fun P => ne_pr
      rw [e, decide_eq_true rfl]
      simp only [boolOf_bl, Bool.not_true, Bool.false_eq_true, if_false, x_nil]
      exact k0
    · by_cases ha : a = 0
      · simp only [if_pos ha] at k0 ⊢
        simp only [hnn, Bool.not_true, Bool.false_eq_true, if_false, x_nil]
        exact k0
      · by_cases hd : d = 0
        · simp only [if_neg ha, if_pos hd] at k0 ⊢
          simp only [hnn, hnp, Bool.not_false, if_true, Bool.not_true, Bool.false_eq_true, if_false, x_nil]
          exact k0
        · simp only [if_neg ha, if_neg hd] at k k0 ⊢
          simp only [hnp, Bool.not_false, if_true]
          have hx := hn.nx ha hd hlt
          have bd1 : Bd m (a, b) := ⟨hx.a1, by have := hx.ab; have := hx.bm; show a ≤ m; omega, by have := hx.a1; have := hx.ab; show 1 ≤ b; omega, hx.bm, det_gcd hx.det⟩
          have bd2 := hx.bd
          have up : ∀ {p : Int × Int}, Bd m p → Bd 120 p := fun h => ⟨h.a1, by have := h.a2; omega, h.b1, by have := h.b2; omega, h.co⟩
          have e : ∀ P : D → SS → Prop, SatO (cmpD .NotEq (oD (some (a, b))) (oD (some (c, d))) S) P = P (.bl (!decide ((a, b) = (c, d)))) S := fun P => ne_pr
          rw [e]
          simp only [boolOf_bl]
          cases hq : decide ((a, b) = (c, d)) with
          | true =>
            simp only [Bool.not_true, Bool.false_eq_true, if_false, x_nil]
            exact k0
          | false =>
            simp only [Bool.not_false, if_true]
            rw [x_seq, x_if]
            simp only [xt_or, xt_not, xt_tru, xt_val, xe_op2, xe_call, xe_cb, xa_cons, xa_nil, xe_var, List.getElem?_cons_succ, List.getElem?_cons_zero, List.set_cons_succ, List.set_cons_zero, List.length_cons, List.length_nil, List.map_cons, List.map_nil, List.cons_append, List.nil_append, List.replicate, Nat.reduceAdd, Nat.zero_add, true_and]
            have sm2 : Sm 10 (c, d) := ⟨by have := bd2.a1; have := bd2.a2; omega, by have := bd2.b1; have := bd2.b2; omega, by have := bd2.b1; omega⟩
            obtain ⟨x, hx2⟩ := nice_repr2 (pr_nice sm2 (by decide))
            refine (next_part_sat hx (by omega) fun l1 => ?_).x
            have hx3 : ∀ (S : SS) (P : D → SS → Prop), SatO (one reprD [oD (some (c, d))] S) P = P (.str x) S := hx2
            rw [hx2, hx3, ne_str]
            simp only [decide_true, Bool.not_true, boolOf_bl, Bool.false_eq_true, if_false]
            refine (are_nb_sat (p := (a, b)) (g := (c, d)) (up bd1) (up bd2) fun l2 => ?_).x
            have hdet : (a * d - c * b).natAbs = 1 := by have := hx.det; omega
            have edet : decide ((((a, b) : Int × Int).1 * ((c, d) : Int × Int).2 - ((c, d) : Int × Int).1 * ((a, b) : Int × Int).2).natAbs = 1) = true := decide_eq_true hdet
            rw [edet]
            simp only [tru_bl, Bool.not_true, Bool.false_eq_true, if_false]
            refine (all_parts_sat (by omega) (by omega) bd2 hx.cd.2 fun fs l3 hin hfl => ?_).x
            have e2 : ∀ (S : SS) (P : D → SS → Prop), SatO (cmpD .NotIn (oD (some (c, d))) (.tup (fs.map pr)) S) P = P (.bl (!decide ((c, d) ∈ fs))) S := fun S P => notIn_prT
            rw [e2, decide_eq_true hin]
            simp only [boolOf_bl, Bool.not_true, Bool.false_eq_true, if_false, x_nil, List.append_assoc]
            exact k _
  · rw [decide_eq_false hlt]
    simp only [Bool.false_eq_true, if_false, x_nil]
    exact k0
theorem st_len {r : Int × Int} (hr : Rt r) : (st (tr r)).length ≤ 64 := by
  have := (tr_row hr).len
  unfold st
  have := List.length_filter_le (fun q : Int × Int => decide (0 < q.1)) (pfx (tr r) (tr r).length)
  rw [pfx_len] at this
  omega
@[irreducible] def rsD (rs : List (Int × Int)) : D := .tup (rs.map pr)
theorem rsD_eq {rs : List (Int × Int)} : rsD rs = .tup (rs.map pr) := by unfold rsD; rfl
theorem len_rs {rs : List (Int × Int)} : SatO (one lenD [rsD rs] S) P = P (.int (nI rs.length)) S := by rw [rsD_eq, so_lenN, List.length_map]
theorem ix_rs {rs : List (Int × Int)} {k : Nat} {i : Int} {f : Int × Int} (h : rs[k]? = some f) (hi : i = (k : Int)) : SatO (ixD (rsD rs) (.int i) S) P = P (pr f) S := by
  rw [rsD_eq, so_ixT (n := k) (by rw [List.getElem?_map, h]; rfl) hi]
theorem v9_sat {R : PSt} {r : Int × Int} (hr : RR r) {a0 : D} {o3 o5 o6 o7 o8 o9 o10 o11 o12 o13 o14 o15 : Option D}
    (k : ∀ l, XR (R (sl a0 o3 (some (pr r)) o5 o6 o7 o8 o9 (some (rsD (st (tr r)))) o11 o12 o13 o14 o15) (S ++ l)) Pn P Y) : XR (sSeq (v9 C) (sSeq (v10 C) R) (sl a0 o3 (some (pr r)) o5 o6 o7 o8 o9 o10 o11 o12 o13 o14 o15) S) Pn P Y := by
  rw [x_seq]
  unfold v9
  simp only [x_asg1, xe_call, xa_cons, xa_nil, xe_var, List.getElem?_cons_succ, List.getElem?_cons_zero, List.set_cons_succ, List.set_cons_zero, List.length_cons, List.length_nil, List.map_cons, List.map_nil, List.cons_append, List.nil_append, List.replicate, Nat.reduceAdd, Nat.zero_add, true_and]
  refine stages_x rfl (fun z => absurd z (by rw [rtB_pr.mpr hr.t]; decide)) fun r' e1 _ l => ?_
  have e1 := pr_inj e1
  subst e1
  rw [← rsD_eq, x_seq]
  unfold v10
  have ne0 : tr r ≠ [0] := fun e => by
    have h := tr_mp hr.t
    rw [e] at h
    have a1 := hr.t.a1
    rw [← h] at a1
    exact absurd a1 (by decide)
  obtain ⟨A, hA⟩ := st_last (tr_row hr.t) ne0
  rw [tr_mp hr.t] at hA
  have hlast : (st (tr r))[A.length]? = some r := by rw [hA]; simp
  have hlen : (st (tr r)).length = A.length + 1 := by rw [hA]; simp
  simp only [x_if, xt_or, xt_val, xe_op2, xe_cb, xe_call, xe_tup2, xa_cons, xa_nil, xe_var, xe_c, len_rs, so_sub, List.getElem?_cons_succ, List.getElem?_cons_zero, List.set_cons_succ, List.set_cons_zero, List.length_cons, List.length_nil, List.map_cons, List.map_nil, List.cons_append, List.nil_append, List.replicate, Nat.reduceAdd, Nat.zero_add, true_and]
  rw [ix_rs hlast (by rw [nI_eq, hlen]; omega), ne_pr, decide_eq_true rfl]
  simp only [boolOf_bl, Bool.not_true, Bool.false_eq_true, if_false]
  refine (error_sat hr.t fun l2 => ?_).x
  rw [err_zero hr.t]
  have e2 : ∀ (S : SS) (P : D → SS → Prop), SatO (cmpD .NotEq (pr (0, 1)) (.tup [.int 0, .int 1]) S) P = P (.bl (!decide (((0, 1) : Int × Int) = (0, 1)))) S := fun S P => ne_pr (a := (0, 1)) (b := (0, 1))
  rw [e2, decide_eq_true rfl]
  simp only [boolOf_bl, Bool.not_true, Bool.false_eq_true, if_false, x_nil, List.append_assoc]
  exact k _
theorem v11_sat {R : PSt} {r : Int × Int} (hr : RR r) {a0 : D} {o3 o5 o6 o7 o8 o9 o11 o12 o13 o14 o15 : Option D}
    (k : ∀ l o11, XR (R (sl a0 o3 (some (pr r)) o5 o6 o7 o8 o9 (some (rsD (st (tr r)))) o11 o12 o13 o14 o15) (S ++ l)) Pn P Y) : XR (sSeq (v11 C) R (sl a0 o3 (some (pr r)) o5 o6 o7 o8 o9 (some (rsD (st (tr r)))) o11 o12 o13 o14 o15) S) Pn P Y := by
  rw [x_seq]
  unfold v11
  have hl := st_len hr.t
  have hpos : 1 ≤ (st (tr r)).length := by
    have ne0 : tr r ≠ [0] := fun e => by
      have h := tr_mp hr.t
      rw [e] at h
      have a1 := hr.t.a1
      rw [← h] at a1
      exact absurd a1 (by decide)
    obtain ⟨A, hA⟩ := st_last (tr_row hr.t) ne0
    rw [hA]
    simp
  refine x_forR (n := (st (tr r)).length - 1) (fun j δ S' => ∃ l o11, S' = S ++ l ∧ δ = sl a0 o3 (some (pr r)) o5 o6 o7 o8 o9 (some (rsD (st (tr r)))) o11 o12 o13 o14 o15) (by omega) (fun Q hq => by
    simp only [xa_cons, xa_nil, xe_op2, xe_cb, xe_var, xe_c, len_rs, so_sub, List.getElem?_cons_succ, List.getElem?_cons_zero, List.set_cons_succ, List.set_cons_zero, List.length_cons, List.length_nil, List.map_cons, List.map_nil, List.cons_append, List.nil_append, List.replicate, Nat.reduceAdd, Nat.zero_add, true_and]
    have e : nI (st (tr r)).length - 1 = nI ((st (tr r)).length - 1) := by rw [nI_eq, nI_eq]; omega
    rw [e]
    exact hq) ⟨[], o11, by simp, rfl⟩ ?_ ?_
  · rintro j δ S' hj ⟨l, o11, rfl, rfl⟩
    refine ⟨_, rfl, ?_⟩
    obtain ⟨f, hf⟩ : ∃ f, (st (tr r))[j]? = some f := ⟨_, List.getElem?_eq_getElem (by omega)⟩
    obtain ⟨g, hg⟩ : ∃ g, (st (tr r))[j + 1]? = some g := ⟨_, List.getElem?_eq_getElem (by omega)⟩
    obtain ⟨b1, b2, hdet, hlt⟩ := stage_two hr.t (by have := hr.a; omega) (by have := hr.b; omega) hf hg
    have i1 : ∀ (S : SS) (P : D → SS → Prop), SatO (ixD (rsD (st (tr r))) (.int (nI j)) S) P = P (pr f) S := fun S P => ix_rs hf nI_eq
    have i2 : ∀ (S : SS) (P : D → SS → Prop), SatO (ixD (rsD (st (tr r))) (.int (nI j + 1)) S) P = P (pr g) S := fun S P => ix_rs hg (by rw [nI_eq]; omega)
    have bf : Fr f := ⟨b1.a1, by have := b1.a2; omega, b1.b1, by have := b1.b2; omega⟩
    have bg : Fr g := ⟨b2.a1, by have := b2.a2; omega, b2.b1, by have := b2.b2; omega⟩
    simp only [List.getElem?_cons_succ, List.getElem?_cons_zero, List.set_cons_succ, List.set_cons_zero, List.length_cons, List.length_nil, List.map_cons, List.map_nil, List.cons_append, List.nil_append, List.replicate, Nat.reduceAdd, Nat.zero_add, true_and]
    rw [x_seq, x_if]
    simp only [xt_or, xt_not, xt_tru, xt_val, xe_op2, xe_call, xa_cons, xa_nil, xe_var, xe_c, so_add, i1, i2, List.getElem?_cons_succ, List.getElem?_cons_zero, List.set_cons_succ, List.set_cons_zero, List.length_cons, List.length_nil, List.map_cons, List.map_nil, List.cons_append, List.nil_append, List.replicate, Nat.reduceAdd, Nat.zero_add, true_and]
    refine (are_nb_sat b1 b2 fun l2 => ?_).x
    rw [decide_eq_true (show (f.1 * g.2 - g.1 * f.2).natAbs = 1 by rcases hdet with h | h <;> rw [h] <;> rfl), so_isnot_tt]
    simp only [boolOf_bl, Bool.false_eq_true, if_false]
    refine (l_gap_sat hr.fr bg ?_).x
    refine (l_gap_sat hr.fr bf ?_).x
    refine (l_less_sat ((gpF_sm bg hr.fr).up (by decide)) ((gpF_sm bf hr.fr).up (by decide)) ?_).x
    rw [hlt]
    simp only [tru_bl, Bool.not_true, Bool.false_eq_true, if_false, x_nil]
    exact ⟨_, _, by rw [List.append_assoc], rfl⟩
  · rintro δ S' ⟨l, o11, rfl, rfl⟩
    exact k l o11
theorem v12_sat {r : Int × Int} (hr : RR r) {a0 : D} {o3 o5 o6 o7 o8 o9 o10 o11 o12 o13 o14 o15 : Option D}
    (k : ∀ l o14 o15, Pn (sl a0 o3 (some (pr r)) o5 o6 o7 o8 o9 o10 o11 o12 o13 o14 o15) (S ++ l)) : XR (sSeq (v12 C) (sSeq (v13 C) sNil) (sl a0 o3 (some (pr r)) o5 o6 o7 o8 o9 o10 o11 o12 o13 o14 o15) S) Pn P Y := by
  rw [x_seq]
  unfold v12
  rw [x_asgN]
  simp only [xe_call, xa_cons, xa_nil, xe_var, List.getElem?_cons_succ, List.getElem?_cons_zero, List.set_cons_succ, List.set_cons_zero, List.length_cons, List.length_nil, List.map_cons, List.map_nil, List.cons_append, List.nil_append, List.replicate, Nat.reduceAdd, Nat.zero_add, true_and]
  refine (parents_sat hr.bd fun x y l h1 h2 => ?_).x
  simp only [bind_many2, List.getElem?_cons_succ, List.getElem?_cons_zero, List.set_cons_succ, List.set_cons_zero, List.length_cons, List.length_nil, List.map_cons, List.map_nil, List.cons_append, List.nil_append, List.replicate, Nat.reduceAdd, Nat.zero_add, true_and]
  rw [x_seq]
  unfold v13
  simp only [x_if, xt_val, xe_op2, xe_tup2, xe_var, xe_c, so_ix0, so_ix1, so_add, h1, h2, List.getElem?_cons_succ, List.getElem?_cons_zero, List.set_cons_succ, List.set_cons_zero, List.length_cons, List.length_nil, List.map_cons, List.map_nil, List.cons_append, List.nil_append, List.replicate, Nat.reduceAdd, Nat.zero_add, true_and]
  rw [ne_pr (a := r) (b := r), decide_eq_true rfl]
  simp only [boolOf_bl, Bool.not_true, Bool.false_eq_true, if_false, x_nil]
  exact k _ _ _
end
end K27
set_option Elab.async false
set_option linter.all false
set_option maxRecDepth 100000
set_option maxHeartbeats 2000000
namespace K27
open PySem L2 DL
section
variable {C : CA} {S : SS} {P : D → SS → Prop} {X : XQ} {Y : Sl → XQ} {Pn : Sl → SS → Prop} {q : Nat}
theorem turn_sat {a0 : D} {o3 o4 o5 o6 o7 o8 o9 o10 o11 o12 o13 o14 o15 : Option D} (da : DA S 0 2 q) (hq : q ≤ 100000000)
    (k : ∀ S' o4 o5 o6 o7 o8 o9 o10 o11 o12 o13 o14 o15, DA S' 0 2 (q + 10) → Pn (sl a0 o3 o4 o5 o6 o7 o8 o9 o10 o11 o12 o13 o14 o15) S') : XR (vB C (sl a0 o3 o4 o5 o6 o7 o8 o9 o10 o11 o12 o13 o14 o15) S) Pn P Y := by
  unfold vB
  refine v0_sat da (by omega) fun r S1 hr da1 => ?_
  refine v1_sat hr da1 (by omega) fun n f p d S2 n2 hn hb hp hd hne hl da2 => ?_
  refine v5_sat hr hn hb hp hd hne hl ?_
  refine v6_sat hr da2 (by omega) fun m t S3 m2 m31 ht da3 => ?_
  refine v8_sat hr m2 m31 ht fun l1 => ?_
  refine v9_sat hr fun l2 => ?_
  refine v11_sat hr fun l3 o11 => ?_
  refine v12_sat hr fun l4 o14 o15 => ?_
  exact k _ _ _ _ _ _ _ _ _ _ _ _ _ ((da3.app.app.app.app).up (by omega))
theorem law_true (C : CA) (ns : List Int) : ∃ S', F_law C [.rls (ns.map .int)] [] = .ok (.bl true) S' := by
  suffices h : Sat (F_law C [.rls (ns.map .int)] []) fun x _ => x = .bl true by
    obtain ⟨x, S', e, rfl⟩ := sat_ex h
    exact ⟨S', e⟩
  rw [sem_law, wT_eq]
  refine XSat.s (x_fn ?_)
  generalize ha0 : D.rls (ns.map .int) = a0
  simp only [startD, List.getElem?_cons_succ, List.getElem?_cons_zero, List.set_cons_succ, List.set_cons_zero, List.length_cons, List.length_nil, List.map_cons, List.map_nil, List.cons_append, List.nil_append, List.replicate, Nat.reduceAdd, Nat.zero_add, true_and]
  unfold wT0
  rw [x_seq]
  unfold w0
  simp only [x_asg1, xe_call, xa_cons, xa_nil, xe_var, List.getElem?_cons_succ, List.getElem?_cons_zero, List.set_cons_succ, List.set_cons_zero, List.length_cons, List.length_nil, List.map_cons, List.map_nil, List.cons_append, List.nil_append, List.replicate, Nat.reduceAdd, Nat.zero_add, true_and]
  rw [← ha0]
  refine (l_draws_sat fun ds l hb hl => ?_).x
  rw [ha0]
  unfold wT1
  rw [x_seq]
  unfold w1
  simp only [x_asg1, xe_lst1, xe_c, List.getElem?_cons_succ, List.getElem?_cons_zero, List.set_cons_succ, List.set_cons_zero, List.length_cons, List.length_nil, List.map_cons, List.map_nil, List.cons_append, List.nil_append, List.replicate, Nat.reduceAdd, Nat.zero_add, true_and]
  have da0 : DA [.lst (ds.map .int), .lst l, .lst [.int 0]] 0 2 0 := ⟨by decide, ds, 0, rfl, rfl, Nat.le_refl _, hb, hl⟩
  show XR (wT2 C (sl a0 none none none none none none none none none none none none none) [.lst (ds.map .int), .lst l, .lst [.int 0]]) _ _ _
  generalize ([.lst (ds.map .int), .lst l, .lst [.int 0]] : SS) = S0 at *
  unfold wT2
  rw [x_seq]
  unfold w2
  refine x_for ?_
  simp only [xit_val, xit_on, xe_op2, xe_var, xe_c, xa_cons, xa_nil, so_ix0, so_ix1, so_ix2, xe_tup0, xe_tup1, xe_tup2, xe_tup3, xe_tup4, xe_tup5, xe_tup6, List.getElem?_cons_succ, List.getElem?_cons_zero, List.set_cons_succ, List.set_cons_zero, List.length_cons, List.length_nil, List.map_cons, List.map_nil, List.cons_append, List.nil_append, List.replicate, Nat.reduceAdd, Nat.zero_add, true_and]
  rw [show ∀ S, rng1D [.int 3] S = some (rngItems 0 3 1, []) from fun _ => rfl]
  refine ⟨fun j δ S' => DA S' 0 2 (10 * j) ∧ ∃ o3 o4 o5 o6 o7 o8 o9 o10 o11 o12 o13 o14 o15, δ = sl a0 o3 o4 o5 o6 o7 o8 o9 o10 o11 o12 o13 o14 o15, ⟨da0, _, _, _, _, _, _, _, _, _, _, _, _, _, rfl⟩, ?_, ?_⟩
  · rintro j d δ S' hj ⟨da', o3, o4, o5, o6, o7, o8, o9, o10, o11, o12, o13, o14, o15, rfl⟩
    obtain ⟨hj1, rfl⟩ := rng_get hj
    refine ⟨trivial, _, rfl, ?_⟩
    exact turn_sat da' (by omega) fun S' _ _ _ _ _ _ _ _ _ _ _ _ da3 => ⟨da3, _, _, _, _, _, _, _, _, _, _, _, _, _, rfl⟩
  · rintro δ S' ⟨da', o3, o4, o5, o6, o7, o8, o9, o10, o11, o12, o13, o14, o15, rfl⟩
    refine ⟨trivial, ?_⟩
    unfold wT3
    rw [x_seq]
    unfold w3
    rw [x_ret, xe_c]
end
end K27
set_option Elab.async false
set_option linter.all false
set_option maxRecDepth 100000
namespace K27
open PySem PySem.Spec PyProof.Rows L2 DL
theorem sc_common_divisor : FnScope ["first", "second"] ["first", "second"] (defScope st_common_divisor) := ⟨rfl, rfl, rfl, by decide +kernel, rfl, by decide +kernel, by decide +kernel⟩
theorem sc_is_integer : FnScope ["value"] ["value"] (defScope st_is_integer) := ⟨rfl, rfl, rfl, by decide +kernel, rfl, by decide +kernel, by decide +kernel⟩
theorem sc_in_range : FnScope ["value", "least", "most"] ["value", "least", "most"] (defScope st_in_range) := ⟨rfl, rfl, rfl, by decide +kernel, rfl, by decide +kernel, by decide +kernel⟩
theorem sc_is_bounded : FnScope ["value", "most", "part"] ["value", "most"] (defScope st_is_bounded) := ⟨rfl, rfl, rfl, by decide +kernel, rfl, by decide +kernel, by decide +kernel⟩
theorem sc_parents : FnScope ["part", "left", "first", "over", "under", "number"] ["part"] (defScope st_parents) := ⟨rfl, rfl, rfl, by decide +kernel, rfl, by decide +kernel, by decide +kernel⟩
theorem sc_are_neighbours : FnScope ["first", "second", "part", "reason"] ["first", "second"] (defScope st_are_neighbours) := ⟨rfl, rfl, rfl, by decide +kernel, rfl, by decide +kernel, by decide +kernel⟩
theorem sc_l_less : FnScope ["one", "other"] ["one", "other"] (defScope st_l_less) := ⟨rfl, rfl, rfl, by decide +kernel, rfl, by decide +kernel, by decide +kernel⟩
theorem sc_l_fraction : FnScope ["over", "under", "sign", "one", "other"] ["over", "under"] (defScope st_l_fraction) := ⟨rfl, rfl, rfl, by decide +kernel, rfl, by decide +kernel, by decide +kernel⟩
theorem sc_l_sum : FnScope ["one", "other"] ["one", "other"] (defScope st_l_sum) := ⟨rfl, rfl, rfl, by decide +kernel, rfl, by decide +kernel, by decide +kernel⟩
theorem sc_l_minus : FnScope ["one"] ["one"] (defScope st_l_minus) := ⟨rfl, rfl, rfl, by decide +kernel, rfl, by decide +kernel, by decide +kernel⟩
theorem sc_l_gap : FnScope ["one", "other", "gap"] ["one", "other"] (defScope st_l_gap) := ⟨rfl, rfl, rfl, by decide +kernel, rfl, by decide +kernel, by decide +kernel⟩
theorem sc_least : FnScope ["over", "under", "common"] ["over", "under"] (defScope st_least) := ⟨rfl, rfl, rfl, by decide +kernel, rfl, by decide +kernel, by decide +kernel⟩
theorem sc_minus : FnScope ["one", "other"] ["one", "other"] (defScope st_minus) := ⟨rfl, rfl, rfl, by decide +kernel, rfl, by decide +kernel, by decide +kernel⟩
theorem sc_times : FnScope ["one", "other"] ["one", "other"] (defScope st_times) := ⟨rfl, rfl, rfl, by decide +kernel, rfl, by decide +kernel, by decide +kernel⟩
theorem sc_error_of : FnScope ["ratio", "found"] ["ratio", "found"] (defScope st_error_of) := ⟨rfl, rfl, rfl, by decide +kernel, rfl, by decide +kernel, by decide +kernel⟩
theorem sc_demand_ratio : FnScope ["value", "part"] ["value"] (defScope st_demand_ratio) := ⟨rfl, rfl, rfl, by decide +kernel, rfl, by decide +kernel, by decide +kernel⟩
theorem sc_error : FnScope ["ratio", "found"] ["ratio", "found"] (defScope st_error) := ⟨rfl, rfl, rfl, by decide +kernel, rfl, by decide +kernel, by decide +kernel⟩
theorem sc_terms : FnScope ["ratio", "found", "first", "second"] ["ratio"] (defScope st_terms) := ⟨rfl, rfl, rfl, by decide +kernel, rfl, by decide +kernel, by decide +kernel⟩
theorem sc_stages : FnScope ["ratio", "found", "part", "before", "here", "after"] ["ratio"] (defScope st_stages) := ⟨rfl, rfl, rfl, by decide +kernel, rfl, by decide +kernel, by decide +kernel⟩
theorem sc_is_part : FnScope ["value", "most"] ["value", "most"] (defScope st_is_part) := ⟨rfl, rfl, rfl, by decide +kernel, rfl, by decide +kernel, by decide +kernel⟩
theorem sc_demand_part : FnScope ["most", "value"] ["most", "value"] (defScope st_demand_part) := ⟨rfl, rfl, rfl, by decide +kernel, rfl, by decide +kernel, by decide +kernel⟩
theorem sc_demand_bound : FnScope ["most"] ["most"] (defScope st_demand_bound) := ⟨rfl, rfl, rfl, by decide +kernel, rfl, by decide +kernel, by decide +kernel⟩
theorem sc_next_part : FnScope ["most", "part", "beside", "over", "under", "other"] ["most", "part"] (defScope st_next_part) := ⟨rfl, rfl, rfl, by decide +kernel, rfl, by decide +kernel, by decide +kernel⟩
theorem sc_all_parts : FnScope ["most", "found"] ["most"] (defScope st_all_parts) := ⟨rfl, rfl, rfl, by decide +kernel, rfl, by decide +kernel, by decide +kernel⟩
theorem sc_steps_towards : FnScope ["low", "high", "ratio", "most", "up", "room", "lack", "gain", "fixed", "moved", "part", "step"] ["low", "high", "ratio", "most", "up"] (defScope st_steps_towards) := ⟨rfl, rfl, rfl, by decide +kernel, rfl, by decide +kernel, by decide +kernel⟩
theorem sc_neighbours : FnScope ["ratio", "most", "low", "high", "going", "up", "count"] ["ratio", "most"] (defScope st_neighbours) := ⟨rfl, rfl, rfl, by decide +kernel, rfl, by decide +kernel, by decide +kernel⟩
theorem sc_demand_most : FnScope ["most"] ["most"] (defScope st_demand_most) := ⟨rfl, rfl, rfl, by decide +kernel, rfl, by decide +kernel, by decide +kernel⟩
theorem sc_around : FnScope ["ratio", "most", "low", "high"] ["ratio", "most"] (defScope st_around) := ⟨rfl, rfl, rfl, by decide +kernel, rfl, by decide +kernel, by decide +kernel⟩
theorem sc_l_more : FnScope ["draws", "place", "mixed", "k"] ["draws", "place"] (defScope st_l_more) := ⟨rfl, rfl, rfl, by decide +kernel, rfl, by decide +kernel, by decide +kernel⟩
theorem sc_l_take : FnScope ["draws", "at", "many", "place"] ["draws", "at", "many"] (defScope st_l_take) := ⟨rfl, rfl, rfl, by decide +kernel, rfl, by decide +kernel, by decide +kernel⟩
theorem sc_rows_from : FnScope ["places", "count", "found", "number", "rest"] ["places", "count"] (defScope st_rows_from) := ⟨rfl, rfl, rfl, by decide +kernel, rfl, by decide +kernel, by decide +kernel⟩
theorem sc_teeth_of : FnScope ["stock", "row", "found", "place"] ["stock", "row"] (defScope st_teeth_of) := ⟨rfl, rfl, rfl, by decide +kernel, rfl, by decide +kernel, by decide +kernel⟩
theorem sc_choices_of : FnScope ["stock", "pairs", "places", "found", "driving", "left", "over", "driven", "place"] ["stock", "pairs"] (defScope st_choices_of) := ⟨rfl, rfl, rfl, by decide +kernel, rfl, by decide +kernel, by decide +kernel⟩
theorem sc_is_below : FnScope ["one", "other"] ["one", "other"] (defScope st_is_below) := ⟨rfl, rfl, rfl, by decide +kernel, rfl, by decide +kernel, by decide +kernel⟩
theorem sc_far_from : FnScope ["ratio", "found", "gap"] ["ratio", "found"] (defScope st_far_from) := ⟨rfl, rfl, rfl, by decide +kernel, rfl, by decide +kernel, by decide +kernel⟩
theorem sc_demand_stock : FnScope ["stock", "pairs", "teeth"] ["stock", "pairs"] (defScope st_demand_stock) := ⟨rfl, rfl, rfl, by decide +kernel, rfl, by decide +kernel, by decide +kernel⟩
theorem sc_best_train : FnScope ["ratio", "stock", "pairs", "best", "choice", "gap"] ["ratio", "stock", "pairs"] (defScope st_best_train) := ⟨rfl, rfl, rfl, by decide +kernel, rfl, by decide +kernel, by decide +kernel⟩
theorem sc_nearest : FnScope ["ratio", "most", "low", "high", "left", "right"] ["ratio", "most"] (defScope st_nearest) := ⟨rfl, rfl, rfl, by decide +kernel, rfl, by decide +kernel, by decide +kernel⟩
theorem sc_l_draws : FnScope ["script", "draws", "cell", "rest", "k", "mixed"] ["script"] (defScope st_l_draws) := ⟨rfl, rfl, rfl, by decide +kernel, rfl, by decide +kernel, by decide +kernel⟩
theorem sc_law : FnScope ["script", "draws", "at", "turn", "ratio", "most", "stock", "found", "best", "bound", "rows", "k", "below", "above", "low", "high"] ["script"] (defScope st_law) := ⟨rfl, rfl, rfl, by decide +kernel, rfl, by decide +kernel, by decide +kernel⟩
set_option maxHeartbeats 4000000 in
theorem all_mk {w : World} {K : PySem.W.Frag} {h : Heap} {mg : Str → Option Value} {fa : Addr} (X : K.In h) (G : h.Ns mainGlobals mg) (hfa : mg "law" = some (.ref fa))
    {a_ArgumentError : Addr} {fI_ArgumentError : Addr} {nm_ArgumentError : Str} {qn_ArgumentError : Str} {N_ArgumentError : Addr} {bs_ArgumentError : List Value} {bm_ArgumentError : List Value} {sn_ArgumentError : List Str} {sub_ArgumentError : List Value} {ab_ArgumentError : Bool} {col_ArgumentError : Option Bool} {dd_ArgumentError : Option Addr} {k0_ArgumentError : Option Value} {k1_ArgumentError : Option Value} {k2_ArgumentError : Option Value} {k3_ArgumentError : Option Value} {k5_ArgumentError : Option Value} {scope_ArgumentError : Scope} {doc_ArgumentError : Value} {pm_ArgumentError : Value} {ct_ArgumentError : Value} {an_ArgumentError : Option Addr} {cda_ArgumentError : Addr} {cc_ArgumentError : Addr} {oc_ArgumentError : Value} {od_ArgumentError : Option Addr} {osl_ArgumentError : Array (Option Value)} {ccl_ArgumentError : Value} {cdd_ArgumentError : Option Addr} {vs_ArgumentError : Array Value} {ccs_ArgumentError : Array (Option Value)} {file_ArgumentError : Str} {tf_ArgumentError : Tok} {cl_ArgumentError : Value} {cld_ArgumentError : Option Addr} {csl_ArgumentError : Array (Option Value)} {cdD_ArgumentError : ClassData} {D_ArgumentError : Addr} {t_1 : Tok} {t_2 : Tok} {t_3 : Tok} {t_4 : Tok} {t_5 : Tok} {t_6 : Tok} {f_common_divisor : Addr} {oc_common_divisor kV_common_divisor dc_common_divisor pm_common_divisor cd_common_divisor ct_common_divisor : Value} {od_common_divisor an_common_divisor : Option Addr} {sl_common_divisor : Array (Option Value)} {f_is_integer : Addr} {oc_is_integer kV_is_integer dc_is_integer pm_is_integer cd_is_integer ct_is_integer : Value} {od_is_integer an_is_integer : Option Addr} {sl_is_integer : Array (Option Value)} {f_in_range : Addr} {oc_in_range kV_in_range dc_in_range pm_in_range cd_in_range ct_in_range : Value} {od_in_range an_in_range : Option Addr} {sl_in_range : Array (Option Value)} {f_is_bounded : Addr} {oc_is_bounded kV_is_bounded dc_is_bounded pm_is_bounded cd_is_bounded ct_is_bounded : Value} {od_is_bounded an_is_bounded : Option Addr} {sl_is_bounded : Array (Option Value)} {f_parents : Addr} {oc_parents kV_parents dc_parents pm_parents cd_parents ct_parents : Value} {od_parents an_parents : Option Addr} {sl_parents : Array (Option Value)} {f_are_neighbours : Addr} {oc_are_neighbours kV_are_neighbours dc_are_neighbours pm_are_neighbours cd_are_neighbours ct_are_neighbours : Value} {od_are_neighbours an_are_neighbours : Option Addr} {sl_are_neighbours : Array (Option Value)} {f_l_less : Addr} {oc_l_less kV_l_less dc_l_less pm_l_less cd_l_less ct_l_less : Value} {od_l_less an_l_less : Option Addr} {sl_l_less : Array (Option Value)} {f_l_fraction : Addr} {oc_l_fraction kV_l_fraction dc_l_fraction pm_l_fraction cd_l_fraction ct_l_fraction : Value} {od_l_fraction an_l_fraction : Option Addr} {sl_l_fraction : Array (Option Value)} {f_l_sum : Addr} {oc_l_sum kV_l_sum dc_l_sum pm_l_sum cd_l_sum ct_l_sum : Value} {od_l_sum an_l_sum : Option Addr} {sl_l_sum : Array (Option Value)} {f_l_minus : Addr} {oc_l_minus kV_l_minus dc_l_minus pm_l_minus cd_l_minus ct_l_minus : Value} {od_l_minus an_l_minus : Option Addr} {sl_l_minus : Array (Option Value)} {f_l_gap : Addr} {oc_l_gap kV_l_gap dc_l_gap pm_l_gap cd_l_gap ct_l_gap : Value} {od_l_gap an_l_gap : Option Addr} {sl_l_gap : Array (Option Value)} {f_least : Addr} {oc_least kV_least dc_least pm_least cd_least ct_least : Value} {od_least an_least : Option Addr} {sl_least : Array (Option Value)} {f_minus : Addr} {oc_minus kV_minus dc_minus pm_minus cd_minus ct_minus : Value} {od_minus an_minus : Option Addr} {sl_minus : Array (Option Value)} {f_times : Addr} {oc_times kV_times dc_times pm_times cd_times ct_times : Value} {od_times an_times : Option Addr} {sl_times : Array (Option Value)} {f_error_of : Addr} {oc_error_of kV_error_of dc_error_of pm_error_of cd_error_of ct_error_of : Value} {od_error_of an_error_of : Option Addr} {sl_error_of : Array (Option Value)} {f_demand_ratio : Addr} {oc_demand_ratio kV_demand_ratio dc_demand_ratio pm_demand_ratio cd_demand_ratio ct_demand_ratio : Value} {od_demand_ratio an_demand_ratio : Option Addr} {sl_demand_ratio : Array (Option Value)} {f_error : Addr} {oc_error kV_error dc_error pm_error cd_error ct_error : Value} {od_error an_error : Option Addr} {sl_error : Array (Option Value)} {f_terms : Addr} {oc_terms kV_terms dc_terms pm_terms cd_terms ct_terms : Value} {od_terms an_terms : Option Addr} {sl_terms : Array (Option Value)} {f_stages : Addr} {oc_stages kV_stages dc_stages pm_stages cd_stages ct_stages : Value} {od_stages an_stages : Option Addr} {sl_stages : Array (Option Value)} {f_is_part : Addr} {oc_is_part kV_is_part dc_is_part pm_is_part cd_is_part ct_is_part : Value} {od_is_part an_is_part : Option Addr} {sl_is_part : Array (Option Value)} {f_demand_part : Addr} {oc_demand_part kV_demand_part dc_demand_part pm_demand_part cd_demand_part ct_demand_part : Value} {od_demand_part an_demand_part : Option Addr} {sl_demand_part : Array (Option Value)} {f_demand_bound : Addr} {oc_demand_bound kV_demand_bound dc_demand_bound pm_demand_bound cd_demand_bound ct_demand_bound : Value} {od_demand_bound an_demand_bound : Option Addr} {sl_demand_bound : Array (Option Value)} {f_next_part : Addr} {oc_next_part kV_next_part dc_next_part pm_next_part cd_next_part ct_next_part : Value} {od_next_part an_next_part : Option Addr} {sl_next_part : Array (Option Value)} {f_all_parts : Addr} {oc_all_parts kV_all_parts dc_all_parts pm_all_parts cd_all_parts ct_all_parts : Value} {od_all_parts an_all_parts : Option Addr} {sl_all_parts : Array (Option Value)} {f_steps_towards : Addr} {oc_steps_towards kV_steps_towards dc_steps_towards pm_steps_towards cd_steps_towards ct_steps_towards : Value} {od_steps_towards an_steps_towards : Option Addr} {sl_steps_towards : Array (Option Value)} {f_neighbours : Addr} {oc_neighbours kV_neighbours dc_neighbours pm_neighbours cd_neighbours ct_neighbours : Value} {od_neighbours an_neighbours : Option Addr} {sl_neighbours : Array (Option Value)} {f_demand_most : Addr} {oc_demand_most kV_demand_most dc_demand_most pm_demand_most cd_demand_most ct_demand_most : Value} {od_demand_most an_demand_most : Option Addr} {sl_demand_most : Array (Option Value)} {f_around : Addr} {oc_around kV_around dc_around pm_around cd_around ct_around : Value} {od_around an_around : Option Addr} {sl_around : Array (Option Value)} {f_l_more : Addr} {oc_l_more kV_l_more dc_l_more pm_l_more cd_l_more ct_l_more : Value} {od_l_more an_l_more : Option Addr} {sl_l_more : Array (Option Value)} {f_l_take : Addr} {oc_l_take kV_l_take dc_l_take pm_l_take cd_l_take ct_l_take : Value} {od_l_take an_l_take : Option Addr} {sl_l_take : Array (Option Value)} {f_rows_from : Addr} {oc_rows_from kV_rows_from dc_rows_from pm_rows_from cd_rows_from ct_rows_from : Value} {od_rows_from an_rows_from : Option Addr} {sl_rows_from : Array (Option Value)} {f_teeth_of : Addr} {oc_teeth_of kV_teeth_of dc_teeth_of pm_teeth_of cd_teeth_of ct_teeth_of : Value} {od_teeth_of an_teeth_of : Option Addr} {sl_teeth_of : Array (Option Value)} {f_choices_of : Addr} {oc_choices_of kV_choices_of dc_choices_of pm_choices_of cd_choices_of ct_choices_of : Value} {od_choices_of an_choices_of : Option Addr} {sl_choices_of : Array (Option Value)} {f_is_below : Addr} {oc_is_below kV_is_below dc_is_below pm_is_below cd_is_below ct_is_below : Value} {od_is_below an_is_below : Option Addr} {sl_is_below : Array (Option Value)} {f_far_from : Addr} {oc_far_from kV_far_from dc_far_from pm_far_from cd_far_from ct_far_from : Value} {od_far_from an_far_from : Option Addr} {sl_far_from : Array (Option Value)} {f_demand_stock : Addr} {oc_demand_stock kV_demand_stock dc_demand_stock pm_demand_stock cd_demand_stock ct_demand_stock : Value} {od_demand_stock an_demand_stock : Option Addr} {sl_demand_stock : Array (Option Value)} {f_best_train : Addr} {oc_best_train kV_best_train dc_best_train pm_best_train cd_best_train ct_best_train : Value} {od_best_train an_best_train : Option Addr} {sl_best_train : Array (Option Value)} {f_nearest : Addr} {oc_nearest kV_nearest dc_nearest pm_nearest cd_nearest ct_nearest : Value} {od_nearest an_nearest : Option Addr} {sl_nearest : Array (Option Value)} {f_l_draws : Addr} {oc_l_draws kV_l_draws dc_l_draws pm_l_draws cd_l_draws ct_l_draws : Value} {od_l_draws an_l_draws : Option Addr} {sl_l_draws : Array (Option Value)} {f_law : Addr} {oc_law kV_law dc_law pm_law cd_law ct_law : Value} {od_law an_law : Option Addr} {sl_law : Array (Option Value)}
    (n_ArgumentError : PySem.W.nsIn K mainGlobals "ArgumentError" = some (some (.ref a_ArgumentError)))
    (bx_ArgumentError : PySem.W.subIn K (.ref a_ArgumentError) (.type "BaseException") = some true)
    (hd_ArgumentError : PySem.W.hasDictIn K a_ArgumentError = true)
    (ty_ArgumentError : PySem.W.typeIn K (.ref a_ArgumentError) = some (.type "type"))
    (spe : PySem.W.specialIn K (.builtin "object.__class__") "__get__" = some (some (.builtin "getset_descriptor.__get__")))
    (tke : PySem.W.takesIn K (.builtin "object.__class__") = some true)
    (opq : PySem.W.nsIn K PySem.cStatics "thirdparty.any" = some none)
    (xC_ArgumentError : K.lookup a_ArgumentError = some (excClassObj nm_ArgumentError qn_ArgumentError a_ArgumentError N_ArgumentError bs_ArgumentError bm_ArgumentError true sn_ArgumentError sub_ArgumentError ab_ArgumentError col_ArgumentError dd_ArgumentError k0_ArgumentError k1_ArgumentError k2_ArgumentError k3_ArgumentError k5_ArgumentError "ValueError.__new__"))
    (sa_ArgumentError : PySem.W.findIn K (.ref a_ArgumentError) "__setattr__" = some (some (.builtin "object.__setattr__")))
    (iC_ArgumentError : PySem.W.findIn K (.ref a_ArgumentError) "__init__" = some (some (.ref fI_ArgumentError)))
    (tC_ArgumentError : PySem.W.typeIn K (.ref fI_ArgumentError) = some (.type "function"))
    (lF_ArgumentError : K.lookup fI_ArgumentError = some ⟨oc_ArgumentError, od_ArgumentError, .func (PySem.W.ksFn "__init__" "ReasonError.__init__" (args1 "reason" (fun n => ([⟨22, 17, 22, 21⟩, ⟨22, 23, 22, 29⟩, ⟨0, 0, 0, 0⟩, ⟨23, 8, 23, 13⟩, ⟨23, 8, 23, 15⟩, ⟨23, 8, 23, 24⟩, ⟨23, 8, 23, 32⟩, ⟨23, 8, 23, 32⟩, ⟨23, 25, 23, 31⟩, ⟨0, 0, 0, 0⟩, ⟨24, 8, 24, 12⟩, ⟨24, 8, 24, 19⟩, ⟨24, 22, 24, 28⟩, ⟨24, 8, 24, 28⟩, ⟨0, 0, 0, 0⟩, ⟨0, 0, 0, 0⟩, ⟨0, 0, 0, 0⟩, ⟨0, 0, 0, 0⟩] : List Pos).getD n ⟨0, 0, 0, 0⟩)) (body1 "reason" (fun n => ([⟨22, 17, 22, 21⟩, ⟨22, 23, 22, 29⟩, ⟨0, 0, 0, 0⟩, ⟨23, 8, 23, 13⟩, ⟨23, 8, 23, 15⟩, ⟨23, 8, 23, 24⟩, ⟨23, 8, 23, 32⟩, ⟨23, 8, 23, 32⟩, ⟨23, 25, 23, 31⟩, ⟨0, 0, 0, 0⟩, ⟨24, 8, 24, 12⟩, ⟨24, 8, 24, 19⟩, ⟨24, 22, 24, 28⟩, ⟨24, 8, 24, 28⟩, ⟨0, 0, 0, 0⟩, ⟨0, 0, 0, 0⟩, ⟨0, 0, 0, 0⟩, ⟨0, 0, 0, 0⟩] : List Pos).getD n ⟨0, 0, 0, 0⟩)) scope_ArgumentError .none .none doc_ArgumentError pm_ArgumentError an_ArgumentError (.ref cda_ArgumentError) ct_ArgumentError cc_ArgumentError), osl_ArgumentError⟩)
    (cI_ArgumentError : PySem.W.codeIn K (.ref cda_ArgumentError) "ReasonError.__init__" = true)
    (lcd_ArgumentError : K.lookup cda_ArgumentError = some ⟨ccl_ArgumentError, cdd_ArgumentError, .fields vs_ArgumentError, ccs_ArgumentError⟩)
    (h2_ArgumentError : vs_ArgumentError[2]? = some (.str file_ArgumentError tf_ArgumentError))
    (hf_ArgumentError : ((PySem.Challenge.pw_geartrue_k27_whole_nearest_wheels_and_fr.main.file : Str) == file_ArgumentError) = true)
    (lcc_ArgumentError : K.lookup cc_ArgumentError = some ⟨cl_ArgumentError, cld_ArgumentError, .cell (some (.ref D_ArgumentError)), csl_ArgumentError⟩)
    (hD_ArgumentError : PySem.W.clsIn K D_ArgumentError = some cdD_ArgumentError)
    (hsub_ArgumentError : PySem.W.mroIn K a_ArgumentError (.ref D_ArgumentError) = some true)
    (sup_ArgumentError : PySem.W.ks_superIn K a_ArgumentError D_ArgumentError "__init__" = some (some (.builtin "ValueError.__init__")))
    (isVE_ArgumentError : PySem.W.subIn K (.ref a_ArgumentError) (.type "ValueError") = some true)
    (kC_ArgumentError : PySem.W.keepIn K (.ref a_ArgumentError) = true)
    (no_reason_ArgumentError : PySem.W.findIn K (.ref a_ArgumentError) "reason" = some none)
    (rv_ArgumentError : PySem.HandSPX.refsVE bm_ArgumentError = true)
    (s1_ArgumentError : scope_ArgumentError.kind = .function)
    (s2_ArgumentError : scope_ArgumentError.isCoroutine = false)
    (s3_ArgumentError : scope_ArgumentError.isGenerator = false)
    (s4_ArgumentError : ∀ x ∈ scope_ArgumentError.names, x.2 ≠ .cell)
    (s5_ArgumentError : scope_ArgumentError.names.lookup ("super" : Str) = some .globalImplicit)
    (s6_ArgumentError : scope_ArgumentError.names.lookup ("__class__" : Str) = some .free)
    (s7_ArgumentError : scope_ArgumentError.names.lookup ("self" : Str) = some .local)
    (s8_reason_ArgumentError : scope_ArgumentError.names.lookup ("reason" : Str) = some .local)
    (ga_ArgumentError : PySem.W.findIn K (.ref a_ArgumentError) "__getattribute__" = some (some (.builtin "BaseException.__getattribute__")))
    (gg_ArgumentError : PySem.W.findIn K (.ref a_ArgumentError) "__getattr__" = some none)
    (cla_ArgumentError : PySem.W.findIn K (.ref a_ArgumentError) "__class__" = some (some (.builtin "object.__class__")))
    (ob_ArgumentError : PySem.W.mroIn K a_ArgumentError (.type "object") = some true)
    (self_ArgumentError : PySem.W.subIn K (.ref a_ArgumentError) (.ref a_ArgumentError) = some true)
    (sub_ArgumentError_ArgumentError : PySem.W.subIn K (.ref a_ArgumentError) (.ref a_ArgumentError) = some true)
    (top : (PySem.Challenge.pw_geartrue_k27_whole_nearest_wheels_and_fr.main.scope.names.lookup ("super" : Str)).isSome = false)
    (z_abs : PySem.W.nsIn K mainGlobals "abs" = some none)
    (z_isinstance : PySem.W.nsIn K mainGlobals "isinstance" = some none)
    (z_int : PySem.W.nsIn K mainGlobals "int" = some none)
    (z_bool : PySem.W.nsIn K mainGlobals "bool" = some none)
    (z_tuple : PySem.W.nsIn K mainGlobals "tuple" = some none)
    (z_len : PySem.W.nsIn K mainGlobals "len" = some none)
    (z_all : PySem.W.nsIn K mainGlobals "all" = some none)
    (z_min : PySem.W.nsIn K mainGlobals "min" = some none)
    (z_max : PySem.W.nsIn K mainGlobals "max" = some none)
    (z_list : PySem.W.nsIn K mainGlobals "list" = some none)
    (z_repr : PySem.W.nsIn K mainGlobals "repr" = some none)
    (z_range : PySem.W.nsIn K mainGlobals "range" = some none)
    (z_zip : PySem.W.nsIn K mainGlobals "zip" = some none)
    (z_super : PySem.W.nsIn K mainGlobals "super" = some none)
    (v_MAX_BOUND : PySem.W.nsIn K mainGlobals "MAX_BOUND" = some (some (.int 120 t_1)))
    (v_MAX_NUMBER : PySem.W.nsIn K mainGlobals "MAX_NUMBER" = some (some (.int 1000000000 t_2)))
    (v_MAX_TERM : PySem.W.nsIn K mainGlobals "MAX_TERM" = some (some (.int 1000000 t_3)))
    (v_MAX_PAIRS : PySem.W.nsIn K mainGlobals "MAX_PAIRS" = some (some (.int 3 t_4)))
    (v_MAX_TEETH : PySem.W.nsIn K mainGlobals "MAX_TEETH" = some (some (.int 1000 t_5)))
    (v_MAX_STOCK : PySem.W.nsIn K mainGlobals "MAX_STOCK" = some (some (.int 10 t_6)))
    (a_common_divisor : PySem.W.nsIn K mainGlobals "common_divisor" = some (some (.ref f_common_divisor)))
    (l_common_divisor : K.lookup f_common_divisor = some ⟨oc_common_divisor, od_common_divisor, .func (PySem.W.fnOf "common_divisor" "common_divisor" (defArgs st_common_divisor) (defBody st_common_divisor) (defScope st_common_divisor) .none kV_common_divisor dc_common_divisor pm_common_divisor an_common_divisor cd_common_divisor ct_common_divisor), sl_common_divisor⟩)
    (c_common_divisor : PySem.W.codeIn K cd_common_divisor "common_divisor" = true)
    (k_common_divisor : PySem.W.keepIn K (.ref f_common_divisor) = true)
    (a_is_integer : PySem.W.nsIn K mainGlobals "is_integer" = some (some (.ref f_is_integer)))
    (l_is_integer : K.lookup f_is_integer = some ⟨oc_is_integer, od_is_integer, .func (PySem.W.fnOf "is_integer" "is_integer" (defArgs st_is_integer) (defBody st_is_integer) (defScope st_is_integer) .none kV_is_integer dc_is_integer pm_is_integer an_is_integer cd_is_integer ct_is_integer), sl_is_integer⟩)
    (c_is_integer : PySem.W.codeIn K cd_is_integer "is_integer" = true)
    (k_is_integer : PySem.W.keepIn K (.ref f_is_integer) = true)
    (a_in_range : PySem.W.nsIn K mainGlobals "in_range" = some (some (.ref f_in_range)))
    (l_in_range : K.lookup f_in_range = some ⟨oc_in_range, od_in_range, .func (PySem.W.fnOf "in_range" "in_range" (defArgs st_in_range) (defBody st_in_range) (defScope st_in_range) .none kV_in_range dc_in_range pm_in_range an_in_range cd_in_range ct_in_range), sl_in_range⟩)
    (c_in_range : PySem.W.codeIn K cd_in_range "in_range" = true)
    (k_in_range : PySem.W.keepIn K (.ref f_in_range) = true)
    (a_is_bounded : PySem.W.nsIn K mainGlobals "is_bounded" = some (some (.ref f_is_bounded)))
    (l_is_bounded : K.lookup f_is_bounded = some ⟨oc_is_bounded, od_is_bounded, .func (PySem.W.fnOf "is_bounded" "is_bounded" (defArgs st_is_bounded) (defBody st_is_bounded) (defScope st_is_bounded) .none kV_is_bounded dc_is_bounded pm_is_bounded an_is_bounded cd_is_bounded ct_is_bounded), sl_is_bounded⟩)
    (c_is_bounded : PySem.W.codeIn K cd_is_bounded "is_bounded" = true)
    (k_is_bounded : PySem.W.keepIn K (.ref f_is_bounded) = true)
    (a_parents : PySem.W.nsIn K mainGlobals "parents" = some (some (.ref f_parents)))
    (l_parents : K.lookup f_parents = some ⟨oc_parents, od_parents, .func (PySem.W.fnOf "parents" "parents" (defArgs st_parents) (defBody st_parents) (defScope st_parents) .none kV_parents dc_parents pm_parents an_parents cd_parents ct_parents), sl_parents⟩)
    (c_parents : PySem.W.codeIn K cd_parents "parents" = true)
    (k_parents : PySem.W.keepIn K (.ref f_parents) = true)
    (a_are_neighbours : PySem.W.nsIn K mainGlobals "are_neighbours" = some (some (.ref f_are_neighbours)))
    (l_are_neighbours : K.lookup f_are_neighbours = some ⟨oc_are_neighbours, od_are_neighbours, .func (PySem.W.fnOf "are_neighbours" "are_neighbours" (defArgs st_are_neighbours) (defBody st_are_neighbours) (defScope st_are_neighbours) .none kV_are_neighbours dc_are_neighbours pm_are_neighbours an_are_neighbours cd_are_neighbours ct_are_neighbours), sl_are_neighbours⟩)
    (c_are_neighbours : PySem.W.codeIn K cd_are_neighbours "are_neighbours" = true)
    (k_are_neighbours : PySem.W.keepIn K (.ref f_are_neighbours) = true)
    (a_l_less : PySem.W.nsIn K mainGlobals "_law_less" = some (some (.ref f_l_less)))
    (l_l_less : K.lookup f_l_less = some ⟨oc_l_less, od_l_less, .func (PySem.W.fnOf "_law_less" "_law_less" (defArgs st_l_less) (defBody st_l_less) (defScope st_l_less) .none kV_l_less dc_l_less pm_l_less an_l_less cd_l_less ct_l_less), sl_l_less⟩)
    (c_l_less : PySem.W.codeIn K cd_l_less "_law_less" = true)
    (k_l_less : PySem.W.keepIn K (.ref f_l_less) = true)
    (a_l_fraction : PySem.W.nsIn K mainGlobals "_law_fraction" = some (some (.ref f_l_fraction)))
    (l_l_fraction : K.lookup f_l_fraction = some ⟨oc_l_fraction, od_l_fraction, .func (PySem.W.fnOf "_law_fraction" "_law_fraction" (defArgs st_l_fraction) (defBody st_l_fraction) (defScope st_l_fraction) .none kV_l_fraction dc_l_fraction pm_l_fraction an_l_fraction cd_l_fraction ct_l_fraction), sl_l_fraction⟩)
    (c_l_fraction : PySem.W.codeIn K cd_l_fraction "_law_fraction" = true)
    (k_l_fraction : PySem.W.keepIn K (.ref f_l_fraction) = true)
    (a_l_sum : PySem.W.nsIn K mainGlobals "_law_sum" = some (some (.ref f_l_sum)))
    (l_l_sum : K.lookup f_l_sum = some ⟨oc_l_sum, od_l_sum, .func (PySem.W.fnOf "_law_sum" "_law_sum" (defArgs st_l_sum) (defBody st_l_sum) (defScope st_l_sum) .none kV_l_sum dc_l_sum pm_l_sum an_l_sum cd_l_sum ct_l_sum), sl_l_sum⟩)
    (c_l_sum : PySem.W.codeIn K cd_l_sum "_law_sum" = true)
    (k_l_sum : PySem.W.keepIn K (.ref f_l_sum) = true)
    (a_l_minus : PySem.W.nsIn K mainGlobals "_law_minus" = some (some (.ref f_l_minus)))
    (l_l_minus : K.lookup f_l_minus = some ⟨oc_l_minus, od_l_minus, .func (PySem.W.fnOf "_law_minus" "_law_minus" (defArgs st_l_minus) (defBody st_l_minus) (defScope st_l_minus) .none kV_l_minus dc_l_minus pm_l_minus an_l_minus cd_l_minus ct_l_minus), sl_l_minus⟩)
    (c_l_minus : PySem.W.codeIn K cd_l_minus "_law_minus" = true)
    (k_l_minus : PySem.W.keepIn K (.ref f_l_minus) = true)
    (a_l_gap : PySem.W.nsIn K mainGlobals "_law_gap" = some (some (.ref f_l_gap)))
    (l_l_gap : K.lookup f_l_gap = some ⟨oc_l_gap, od_l_gap, .func (PySem.W.fnOf "_law_gap" "_law_gap" (defArgs st_l_gap) (defBody st_l_gap) (defScope st_l_gap) .none kV_l_gap dc_l_gap pm_l_gap an_l_gap cd_l_gap ct_l_gap), sl_l_gap⟩)
    (c_l_gap : PySem.W.codeIn K cd_l_gap "_law_gap" = true)
    (k_l_gap : PySem.W.keepIn K (.ref f_l_gap) = true)
    (a_least : PySem.W.nsIn K mainGlobals "least" = some (some (.ref f_least)))
    (l_least : K.lookup f_least = some ⟨oc_least, od_least, .func (PySem.W.fnOf "least" "least" (defArgs st_least) (defBody st_least) (defScope st_least) .none kV_least dc_least pm_least an_least cd_least ct_least), sl_least⟩)
    (c_least : PySem.W.codeIn K cd_least "least" = true)
    (k_least : PySem.W.keepIn K (.ref f_least) = true)
    (a_minus : PySem.W.nsIn K mainGlobals "minus" = some (some (.ref f_minus)))
    (l_minus : K.lookup f_minus = some ⟨oc_minus, od_minus, .func (PySem.W.fnOf "minus" "minus" (defArgs st_minus) (defBody st_minus) (defScope st_minus) .none kV_minus dc_minus pm_minus an_minus cd_minus ct_minus), sl_minus⟩)
    (c_minus : PySem.W.codeIn K cd_minus "minus" = true)
    (k_minus : PySem.W.keepIn K (.ref f_minus) = true)
    (a_times : PySem.W.nsIn K mainGlobals "times" = some (some (.ref f_times)))
    (l_times : K.lookup f_times = some ⟨oc_times, od_times, .func (PySem.W.fnOf "times" "times" (defArgs st_times) (defBody st_times) (defScope st_times) .none kV_times dc_times pm_times an_times cd_times ct_times), sl_times⟩)
    (c_times : PySem.W.codeIn K cd_times "times" = true)
    (k_times : PySem.W.keepIn K (.ref f_times) = true)
    (a_error_of : PySem.W.nsIn K mainGlobals "error_of" = some (some (.ref f_error_of)))
    (l_error_of : K.lookup f_error_of = some ⟨oc_error_of, od_error_of, .func (PySem.W.fnOf "error_of" "error_of" (defArgs st_error_of) (defBody st_error_of) (defScope st_error_of) .none kV_error_of dc_error_of pm_error_of an_error_of cd_error_of ct_error_of), sl_error_of⟩)
    (c_error_of : PySem.W.codeIn K cd_error_of "error_of" = true)
    (k_error_of : PySem.W.keepIn K (.ref f_error_of) = true)
    (a_demand_ratio : PySem.W.nsIn K mainGlobals "demand_ratio" = some (some (.ref f_demand_ratio)))
    (l_demand_ratio : K.lookup f_demand_ratio = some ⟨oc_demand_ratio, od_demand_ratio, .func (PySem.W.fnOf "demand_ratio" "demand_ratio" (defArgs st_demand_ratio) (defBody st_demand_ratio) (defScope st_demand_ratio) .none kV_demand_ratio dc_demand_ratio pm_demand_ratio an_demand_ratio cd_demand_ratio ct_demand_ratio), sl_demand_ratio⟩)
    (c_demand_ratio : PySem.W.codeIn K cd_demand_ratio "demand_ratio" = true)
    (k_demand_ratio : PySem.W.keepIn K (.ref f_demand_ratio) = true)
    (a_error : PySem.W.nsIn K mainGlobals "error" = some (some (.ref f_error)))
    (l_error : K.lookup f_error = some ⟨oc_error, od_error, .func (PySem.W.fnOf "error" "error" (defArgs st_error) (defBody st_error) (defScope st_error) .none kV_error dc_error pm_error an_error cd_error ct_error), sl_error⟩)
    (c_error : PySem.W.codeIn K cd_error "error" = true)
    (k_error : PySem.W.keepIn K (.ref f_error) = true)
    (a_terms : PySem.W.nsIn K mainGlobals "terms" = some (some (.ref f_terms)))
    (l_terms : K.lookup f_terms = some ⟨oc_terms, od_terms, .func (PySem.W.fnOf "terms" "terms" (defArgs st_terms) (defBody st_terms) (defScope st_terms) .none kV_terms dc_terms pm_terms an_terms cd_terms ct_terms), sl_terms⟩)
    (c_terms : PySem.W.codeIn K cd_terms "terms" = true)
    (k_terms : PySem.W.keepIn K (.ref f_terms) = true)
    (a_stages : PySem.W.nsIn K mainGlobals "stages" = some (some (.ref f_stages)))
    (l_stages : K.lookup f_stages = some ⟨oc_stages, od_stages, .func (PySem.W.fnOf "stages" "stages" (defArgs st_stages) (defBody st_stages) (defScope st_stages) .none kV_stages dc_stages pm_stages an_stages cd_stages ct_stages), sl_stages⟩)
    (c_stages : PySem.W.codeIn K cd_stages "stages" = true)
    (k_stages : PySem.W.keepIn K (.ref f_stages) = true)
    (a_is_part : PySem.W.nsIn K mainGlobals "is_part" = some (some (.ref f_is_part)))
    (l_is_part : K.lookup f_is_part = some ⟨oc_is_part, od_is_part, .func (PySem.W.fnOf "is_part" "is_part" (defArgs st_is_part) (defBody st_is_part) (defScope st_is_part) .none kV_is_part dc_is_part pm_is_part an_is_part cd_is_part ct_is_part), sl_is_part⟩)
    (c_is_part : PySem.W.codeIn K cd_is_part "is_part" = true)
    (k_is_part : PySem.W.keepIn K (.ref f_is_part) = true)
    (a_demand_part : PySem.W.nsIn K mainGlobals "demand_part" = some (some (.ref f_demand_part)))
    (l_demand_part : K.lookup f_demand_part = some ⟨oc_demand_part, od_demand_part, .func (PySem.W.fnOf "demand_part" "demand_part" (defArgs st_demand_part) (defBody st_demand_part) (defScope st_demand_part) .none kV_demand_part dc_demand_part pm_demand_part an_demand_part cd_demand_part ct_demand_part), sl_demand_part⟩)
    (c_demand_part : PySem.W.codeIn K cd_demand_part "demand_part" = true)
    (k_demand_part : PySem.W.keepIn K (.ref f_demand_part) = true)
    (a_demand_bound : PySem.W.nsIn K mainGlobals "demand_bound" = some (some (.ref f_demand_bound)))
    (l_demand_bound : K.lookup f_demand_bound = some ⟨oc_demand_bound, od_demand_bound, .func (PySem.W.fnOf "demand_bound" "demand_bound" (defArgs st_demand_bound) (defBody st_demand_bound) (defScope st_demand_bound) .none kV_demand_bound dc_demand_bound pm_demand_bound an_demand_bound cd_demand_bound ct_demand_bound), sl_demand_bound⟩)
    (c_demand_bound : PySem.W.codeIn K cd_demand_bound "demand_bound" = true)
    (k_demand_bound : PySem.W.keepIn K (.ref f_demand_bound) = true)
    (a_next_part : PySem.W.nsIn K mainGlobals "next_part" = some (some (.ref f_next_part)))
    (l_next_part : K.lookup f_next_part = some ⟨oc_next_part, od_next_part, .func (PySem.W.fnOf "next_part" "next_part" (defArgs st_next_part) (defBody st_next_part) (defScope st_next_part) .none kV_next_part dc_next_part pm_next_part an_next_part cd_next_part ct_next_part), sl_next_part⟩)
    (c_next_part : PySem.W.codeIn K cd_next_part "next_part" = true)
    (k_next_part : PySem.W.keepIn K (.ref f_next_part) = true)
    (a_all_parts : PySem.W.nsIn K mainGlobals "all_parts" = some (some (.ref f_all_parts)))
    (l_all_parts : K.lookup f_all_parts = some ⟨oc_all_parts, od_all_parts, .func (PySem.W.fnOf "all_parts" "all_parts" (defArgs st_all_parts) (defBody st_all_parts) (defScope st_all_parts) .none kV_all_parts dc_all_parts pm_all_parts an_all_parts cd_all_parts ct_all_parts), sl_all_parts⟩)
    (c_all_parts : PySem.W.codeIn K cd_all_parts "all_parts" = true)
    (k_all_parts : PySem.W.keepIn K (.ref f_all_parts) = true)
    (a_steps_towards : PySem.W.nsIn K mainGlobals "steps_towards" = some (some (.ref f_steps_towards)))
    (l_steps_towards : K.lookup f_steps_towards = some ⟨oc_steps_towards, od_steps_towards, .func (PySem.W.fnOf "steps_towards" "steps_towards" (defArgs st_steps_towards) (defBody st_steps_towards) (defScope st_steps_towards) .none kV_steps_towards dc_steps_towards pm_steps_towards an_steps_towards cd_steps_towards ct_steps_towards), sl_steps_towards⟩)
    (c_steps_towards : PySem.W.codeIn K cd_steps_towards "steps_towards" = true)
    (k_steps_towards : PySem.W.keepIn K (.ref f_steps_towards) = true)
    (a_neighbours : PySem.W.nsIn K mainGlobals "neighbours" = some (some (.ref f_neighbours)))
    (l_neighbours : K.lookup f_neighbours = some ⟨oc_neighbours, od_neighbours, .func (PySem.W.fnOf "neighbours" "neighbours" (defArgs st_neighbours) (defBody st_neighbours) (defScope st_neighbours) .none kV_neighbours dc_neighbours pm_neighbours an_neighbours cd_neighbours ct_neighbours), sl_neighbours⟩)
    (c_neighbours : PySem.W.codeIn K cd_neighbours "neighbours" = true)
    (k_neighbours : PySem.W.keepIn K (.ref f_neighbours) = true)
    (a_demand_most : PySem.W.nsIn K mainGlobals "demand_most" = some (some (.ref f_demand_most)))
    (l_demand_most : K.lookup f_demand_most = some ⟨oc_demand_most, od_demand_most, .func (PySem.W.fnOf "demand_most" "demand_most" (defArgs st_demand_most) (defBody st_demand_most) (defScope st_demand_most) .none kV_demand_most dc_demand_most pm_demand_most an_demand_most cd_demand_most ct_demand_most), sl_demand_most⟩)
    (c_demand_most : PySem.W.codeIn K cd_demand_most "demand_most" = true)
    (k_demand_most : PySem.W.keepIn K (.ref f_demand_most) = true)
    (a_around : PySem.W.nsIn K mainGlobals "around" = some (some (.ref f_around)))
    (l_around : K.lookup f_around = some ⟨oc_around, od_around, .func (PySem.W.fnOf "around" "around" (defArgs st_around) (defBody st_around) (defScope st_around) .none kV_around dc_around pm_around an_around cd_around ct_around), sl_around⟩)
    (c_around : PySem.W.codeIn K cd_around "around" = true)
    (k_around : PySem.W.keepIn K (.ref f_around) = true)
    (a_l_more : PySem.W.nsIn K mainGlobals "_law_more" = some (some (.ref f_l_more)))
    (l_l_more : K.lookup f_l_more = some ⟨oc_l_more, od_l_more, .func (PySem.W.fnOf "_law_more" "_law_more" (defArgs st_l_more) (defBody st_l_more) (defScope st_l_more) .none kV_l_more dc_l_more pm_l_more an_l_more cd_l_more ct_l_more), sl_l_more⟩)
    (c_l_more : PySem.W.codeIn K cd_l_more "_law_more" = true)
    (k_l_more : PySem.W.keepIn K (.ref f_l_more) = true)
    (a_l_take : PySem.W.nsIn K mainGlobals "_law_take" = some (some (.ref f_l_take)))
    (l_l_take : K.lookup f_l_take = some ⟨oc_l_take, od_l_take, .func (PySem.W.fnOf "_law_take" "_law_take" (defArgs st_l_take) (defBody st_l_take) (defScope st_l_take) .none kV_l_take dc_l_take pm_l_take an_l_take cd_l_take ct_l_take), sl_l_take⟩)
    (c_l_take : PySem.W.codeIn K cd_l_take "_law_take" = true)
    (k_l_take : PySem.W.keepIn K (.ref f_l_take) = true)
    (a_rows_from : PySem.W.nsIn K mainGlobals "rows_from" = some (some (.ref f_rows_from)))
    (l_rows_from : K.lookup f_rows_from = some ⟨oc_rows_from, od_rows_from, .func (PySem.W.fnOf "rows_from" "rows_from" (defArgs st_rows_from) (defBody st_rows_from) (defScope st_rows_from) .none kV_rows_from dc_rows_from pm_rows_from an_rows_from cd_rows_from ct_rows_from), sl_rows_from⟩)
    (c_rows_from : PySem.W.codeIn K cd_rows_from "rows_from" = true)
    (k_rows_from : PySem.W.keepIn K (.ref f_rows_from) = true)
    (a_teeth_of : PySem.W.nsIn K mainGlobals "teeth_of" = some (some (.ref f_teeth_of)))
    (l_teeth_of : K.lookup f_teeth_of = some ⟨oc_teeth_of, od_teeth_of, .func (PySem.W.fnOf "teeth_of" "teeth_of" (defArgs st_teeth_of) (defBody st_teeth_of) (defScope st_teeth_of) .none kV_teeth_of dc_teeth_of pm_teeth_of an_teeth_of cd_teeth_of ct_teeth_of), sl_teeth_of⟩)
    (c_teeth_of : PySem.W.codeIn K cd_teeth_of "teeth_of" = true)
    (k_teeth_of : PySem.W.keepIn K (.ref f_teeth_of) = true)
    (a_choices_of : PySem.W.nsIn K mainGlobals "choices_of" = some (some (.ref f_choices_of)))
    (l_choices_of : K.lookup f_choices_of = some ⟨oc_choices_of, od_choices_of, .func (PySem.W.fnOf "choices_of" "choices_of" (defArgs st_choices_of) (defBody st_choices_of) (defScope st_choices_of) .none kV_choices_of dc_choices_of pm_choices_of an_choices_of cd_choices_of ct_choices_of), sl_choices_of⟩)
    (c_choices_of : PySem.W.codeIn K cd_choices_of "choices_of" = true)
    (k_choices_of : PySem.W.keepIn K (.ref f_choices_of) = true)
    (a_is_below : PySem.W.nsIn K mainGlobals "is_below" = some (some (.ref f_is_below)))
    (l_is_below : K.lookup f_is_below = some ⟨oc_is_below, od_is_below, .func (PySem.W.fnOf "is_below" "is_below" (defArgs st_is_below) (defBody st_is_below) (defScope st_is_below) .none kV_is_below dc_is_below pm_is_below an_is_below cd_is_below ct_is_below), sl_is_below⟩)
    (c_is_below : PySem.W.codeIn K cd_is_below "is_below" = true)
    (k_is_below : PySem.W.keepIn K (.ref f_is_below) = true)
    (a_far_from : PySem.W.nsIn K mainGlobals "far_from" = some (some (.ref f_far_from)))
    (l_far_from : K.lookup f_far_from = some ⟨oc_far_from, od_far_from, .func (PySem.W.fnOf "far_from" "far_from" (defArgs st_far_from) (defBody st_far_from) (defScope st_far_from) .none kV_far_from dc_far_from pm_far_from an_far_from cd_far_from ct_far_from), sl_far_from⟩)
    (c_far_from : PySem.W.codeIn K cd_far_from "far_from" = true)
    (k_far_from : PySem.W.keepIn K (.ref f_far_from) = true)
    (a_demand_stock : PySem.W.nsIn K mainGlobals "demand_stock" = some (some (.ref f_demand_stock)))
    (l_demand_stock : K.lookup f_demand_stock = some ⟨oc_demand_stock, od_demand_stock, .func (PySem.W.fnOf "demand_stock" "demand_stock" (defArgs st_demand_stock) (defBody st_demand_stock) (defScope st_demand_stock) .none kV_demand_stock dc_demand_stock pm_demand_stock an_demand_stock cd_demand_stock ct_demand_stock), sl_demand_stock⟩)
    (c_demand_stock : PySem.W.codeIn K cd_demand_stock "demand_stock" = true)
    (k_demand_stock : PySem.W.keepIn K (.ref f_demand_stock) = true)
    (a_best_train : PySem.W.nsIn K mainGlobals "best_train" = some (some (.ref f_best_train)))
    (l_best_train : K.lookup f_best_train = some ⟨oc_best_train, od_best_train, .func (PySem.W.fnOf "best_train" "best_train" (defArgs st_best_train) (defBody st_best_train) (defScope st_best_train) .none kV_best_train dc_best_train pm_best_train an_best_train cd_best_train ct_best_train), sl_best_train⟩)
    (c_best_train : PySem.W.codeIn K cd_best_train "best_train" = true)
    (k_best_train : PySem.W.keepIn K (.ref f_best_train) = true)
    (a_nearest : PySem.W.nsIn K mainGlobals "nearest" = some (some (.ref f_nearest)))
    (l_nearest : K.lookup f_nearest = some ⟨oc_nearest, od_nearest, .func (PySem.W.fnOf "nearest" "nearest" (defArgs st_nearest) (defBody st_nearest) (defScope st_nearest) .none kV_nearest dc_nearest pm_nearest an_nearest cd_nearest ct_nearest), sl_nearest⟩)
    (c_nearest : PySem.W.codeIn K cd_nearest "nearest" = true)
    (k_nearest : PySem.W.keepIn K (.ref f_nearest) = true)
    (a_l_draws : PySem.W.nsIn K mainGlobals "_law_draws" = some (some (.ref f_l_draws)))
    (l_l_draws : K.lookup f_l_draws = some ⟨oc_l_draws, od_l_draws, .func (PySem.W.fnOf "_law_draws" "_law_draws" (defArgs st_l_draws) (defBody st_l_draws) (defScope st_l_draws) .none kV_l_draws dc_l_draws pm_l_draws an_l_draws cd_l_draws ct_l_draws), sl_l_draws⟩)
    (c_l_draws : PySem.W.codeIn K cd_l_draws "_law_draws" = true)
    (k_l_draws : PySem.W.keepIn K (.ref f_l_draws) = true)
    (a_law : PySem.W.nsIn K mainGlobals "law" = some (some (.ref f_law)))
    (l_law : K.lookup f_law = some ⟨oc_law, od_law, .func (PySem.W.fnOf "law" "law" (defArgs st_law) (defBody st_law) (defScope st_law) .none kV_law dc_law pm_law an_law cd_law ct_law), sl_law⟩)
    (c_law : PySem.W.codeIn K cd_law "law" = true)
    (k_law : PySem.W.keepIn K (.ref f_law) = true)
    : ∃ (fd : FuncData) (g : Fn), (∀ (s : Shared) (u : Value), BindsTo s fd ⟨[u], []⟩ [(("script" : Str), u)]) ∧ (∃ C : CA, g = F_law C ∧ C = (⟨a_ArgumentError⟩ : CA)) ∧
      ∀ base : Heap, K.In base → base.Ns mainGlobals mg → FnG PySem.Challenge.pw_geartrue_k27_whole_nearest_wheels_and_fr w K mg base 11 fa fd ["script"] g := by
  have d_common_divisor : DefOk K mg "common_divisor" st_common_divisor ["first", "second"] := def_ok X G a_common_divisor l_common_divisor c_common_divisor k_common_divisor (fun _ _ _ _ _ _ us hl => match us, hl with | [_, _], _ => rfl)
  have d_is_integer : DefOk K mg "is_integer" st_is_integer ["value"] := def_ok X G a_is_integer l_is_integer c_is_integer k_is_integer (fun _ _ _ _ _ _ us hl => match us, hl with | [_], _ => rfl)
  have d_in_range : DefOk K mg "in_range" st_in_range ["value", "least", "most"] := def_ok X G a_in_range l_in_range c_in_range k_in_range (fun _ _ _ _ _ _ us hl => match us, hl with | [_, _, _], _ => rfl)
  have d_is_bounded : DefOk K mg "is_bounded" st_is_bounded ["value", "most"] := def_ok X G a_is_bounded l_is_bounded c_is_bounded k_is_bounded (fun _ _ _ _ _ _ us hl => match us, hl with | [_, _], _ => rfl)
  have d_parents : DefOk K mg "parents" st_parents ["part"] := def_ok X G a_parents l_parents c_parents k_parents (fun _ _ _ _ _ _ us hl => match us, hl with | [_], _ => rfl)
  have d_are_neighbours : DefOk K mg "are_neighbours" st_are_neighbours ["first", "second"] := def_ok X G a_are_neighbours l_are_neighbours c_are_neighbours k_are_neighbours (fun _ _ _ _ _ _ us hl => match us, hl with | [_, _], _ => rfl)
  have d_l_less : DefOk K mg "_law_less" st_l_less ["one", "other"] := def_ok X G a_l_less l_l_less c_l_less k_l_less (fun _ _ _ _ _ _ us hl => match us, hl with | [_, _], _ => rfl)
  have d_l_fraction : DefOk K mg "_law_fraction" st_l_fraction ["over", "under"] := def_ok X G a_l_fraction l_l_fraction c_l_fraction k_l_fraction (fun _ _ _ _ _ _ us hl => match us, hl with | [_, _], _ => rfl)
  have d_l_sum : DefOk K mg "_law_sum" st_l_sum ["one", "other"] := def_ok X G a_l_sum l_l_sum c_l_sum k_l_sum (fun _ _ _ _ _ _ us hl => match us, hl with | [_, _], _ => rfl)
  have d_l_minus : DefOk K mg "_law_minus" st_l_minus ["one"] := def_ok X G a_l_minus l_l_minus c_l_minus k_l_minus (fun _ _ _ _ _ _ us hl => match us, hl with | [_], _ => rfl)
  have d_l_gap : DefOk K mg "_law_gap" st_l_gap ["one", "other"] := def_ok X G a_l_gap l_l_gap c_l_gap k_l_gap (fun _ _ _ _ _ _ us hl => match us, hl with | [_, _], _ => rfl)
  have d_least : DefOk K mg "least" st_least ["over", "under"] := def_ok X G a_least l_least c_least k_least (fun _ _ _ _ _ _ us hl => match us, hl with | [_, _], _ => rfl)
  have d_minus : DefOk K mg "minus" st_minus ["one", "other"] := def_ok X G a_minus l_minus c_minus k_minus (fun _ _ _ _ _ _ us hl => match us, hl with | [_, _], _ => rfl)
  have d_times : DefOk K mg "times" st_times ["one", "other"] := def_ok X G a_times l_times c_times k_times (fun _ _ _ _ _ _ us hl => match us, hl with | [_, _], _ => rfl)
  have d_error_of : DefOk K mg "error_of" st_error_of ["ratio", "found"] := def_ok X G a_error_of l_error_of c_error_of k_error_of (fun _ _ _ _ _ _ us hl => match us, hl with | [_, _], _ => rfl)
  have d_demand_ratio : DefOk K mg "demand_ratio" st_demand_ratio ["value"] := def_ok X G a_demand_ratio l_demand_ratio c_demand_ratio k_demand_ratio (fun _ _ _ _ _ _ us hl => match us, hl with | [_], _ => rfl)
  have d_error : DefOk K mg "error" st_error ["ratio", "found"] := def_ok X G a_error l_error c_error k_error (fun _ _ _ _ _ _ us hl => match us, hl with | [_, _], _ => rfl)
  have d_terms : DefOk K mg "terms" st_terms ["ratio"] := def_ok X G a_terms l_terms c_terms k_terms (fun _ _ _ _ _ _ us hl => match us, hl with | [_], _ => rfl)
  have d_stages : DefOk K mg "stages" st_stages ["ratio"] := def_ok X G a_stages l_stages c_stages k_stages (fun _ _ _ _ _ _ us hl => match us, hl with | [_], _ => rfl)
  have d_is_part : DefOk K mg "is_part" st_is_part ["value", "most"] := def_ok X G a_is_part l_is_part c_is_part k_is_part (fun _ _ _ _ _ _ us hl => match us, hl with | [_, _], _ => rfl)
  have d_demand_part : DefOk K mg "demand_part" st_demand_part ["most", "value"] := def_ok X G a_demand_part l_demand_part c_demand_part k_demand_part (fun _ _ _ _ _ _ us hl => match us, hl with | [_, _], _ => rfl)
  have d_demand_bound : DefOk K mg "demand_bound" st_demand_bound ["most"] := def_ok X G a_demand_bound l_demand_bound c_demand_bound k_demand_bound (fun _ _ _ _ _ _ us hl => match us, hl with | [_], _ => rfl)
  have d_next_part : DefOk K mg "next_part" st_next_part ["most", "part"] := def_ok X G a_next_part l_next_part c_next_part k_next_part (fun _ _ _ _ _ _ us hl => match us, hl with | [_, _], _ => rfl)
  have d_all_parts : DefOk K mg "all_parts" st_all_parts ["most"] := def_ok X G a_all_parts l_all_parts c_all_parts k_all_parts (fun _ _ _ _ _ _ us hl => match us, hl with | [_], _ => rfl)
  have d_steps_towards : DefOk K mg "steps_towards" st_steps_towards ["low", "high", "ratio", "most", "up"] := def_ok X G a_steps_towards l_steps_towards c_steps_towards k_steps_towards (fun _ _ _ _ _ _ us hl => match us, hl with | [_, _, _, _, _], _ => rfl)
  have d_neighbours : DefOk K mg "neighbours" st_neighbours ["ratio", "most"] := def_ok X G a_neighbours l_neighbours c_neighbours k_neighbours (fun _ _ _ _ _ _ us hl => match us, hl with | [_, _], _ => rfl)
  have d_demand_most : DefOk K mg "demand_most" st_demand_most ["most"] := def_ok X G a_demand_most l_demand_most c_demand_most k_demand_most (fun _ _ _ _ _ _ us hl => match us, hl with | [_], _ => rfl)
  have d_around : DefOk K mg "around" st_around ["ratio", "most"] := def_ok X G a_around l_around c_around k_around (fun _ _ _ _ _ _ us hl => match us, hl with | [_, _], _ => rfl)
  have d_l_more : DefOk K mg "_law_more" st_l_more ["draws", "place"] := def_ok X G a_l_more l_l_more c_l_more k_l_more (fun _ _ _ _ _ _ us hl => match us, hl with | [_, _], _ => rfl)
  have d_l_take : DefOk K mg "_law_take" st_l_take ["draws", "at", "many"] := def_ok X G a_l_take l_l_take c_l_take k_l_take (fun _ _ _ _ _ _ us hl => match us, hl with | [_, _, _], _ => rfl)
  have d_rows_from : DefOk K mg "rows_from" st_rows_from ["places", "count"] := def_ok X G a_rows_from l_rows_from c_rows_from k_rows_from (fun _ _ _ _ _ _ us hl => match us, hl with | [_, _], _ => rfl)
  have d_teeth_of : DefOk K mg "teeth_of" st_teeth_of ["stock", "row"] := def_ok X G a_teeth_of l_teeth_of c_teeth_of k_teeth_of (fun _ _ _ _ _ _ us hl => match us, hl with | [_, _], _ => rfl)
  have d_choices_of : DefOk K mg "choices_of" st_choices_of ["stock", "pairs"] := def_ok X G a_choices_of l_choices_of c_choices_of k_choices_of (fun _ _ _ _ _ _ us hl => match us, hl with | [_, _], _ => rfl)
  have d_is_below : DefOk K mg "is_below" st_is_below ["one", "other"] := def_ok X G a_is_below l_is_below c_is_below k_is_below (fun _ _ _ _ _ _ us hl => match us, hl with | [_, _], _ => rfl)
  have d_far_from : DefOk K mg "far_from" st_far_from ["ratio", "found"] := def_ok X G a_far_from l_far_from c_far_from k_far_from (fun _ _ _ _ _ _ us hl => match us, hl with | [_, _], _ => rfl)
  have d_demand_stock : DefOk K mg "demand_stock" st_demand_stock ["stock", "pairs"] := def_ok X G a_demand_stock l_demand_stock c_demand_stock k_demand_stock (fun _ _ _ _ _ _ us hl => match us, hl with | [_, _], _ => rfl)
  have d_best_train : DefOk K mg "best_train" st_best_train ["ratio", "stock", "pairs"] := def_ok X G a_best_train l_best_train c_best_train k_best_train (fun _ _ _ _ _ _ us hl => match us, hl with | [_, _, _], _ => rfl)
  have d_nearest : DefOk K mg "nearest" st_nearest ["ratio", "most"] := def_ok X G a_nearest l_nearest c_nearest k_nearest (fun _ _ _ _ _ _ us hl => match us, hl with | [_, _], _ => rfl)
  have d_l_draws : DefOk K mg "_law_draws" st_l_draws ["script"] := def_ok X G a_l_draws l_l_draws c_l_draws k_l_draws (fun _ _ _ _ _ _ us hl => match us, hl with | [_], _ => rfl)
  have d_law : DefOk K mg "law" st_law ["script"] := def_ok X G a_law l_law c_law k_law (fun _ _ _ _ _ _ us hl => match us, hl with | [_], _ => rfl)
  have m_abs := PySem.W.mg_none_of X G z_abs
  have m_isinstance := PySem.W.mg_none_of X G z_isinstance
  have m_int := PySem.W.mg_none_of X G z_int
  have m_bool := PySem.W.mg_none_of X G z_bool
  have m_tuple := PySem.W.mg_none_of X G z_tuple
  have m_len := PySem.W.mg_none_of X G z_len
  have m_all := PySem.W.mg_none_of X G z_all
  have m_min := PySem.W.mg_none_of X G z_min
  have m_max := PySem.W.mg_none_of X G z_max
  have m_list := PySem.W.mg_none_of X G z_list
  have m_repr := PySem.W.mg_none_of X G z_repr
  have m_range := PySem.W.mg_none_of X G z_range
  have m_zip := PySem.W.mg_none_of X G z_zip
  have m_super := PySem.W.mg_none_of X G z_super
  have mv_MAX_BOUND := PySem.W.mg_of X G v_MAX_BOUND
  have mv_MAX_NUMBER := PySem.W.mg_of X G v_MAX_NUMBER
  have mv_MAX_TERM := PySem.W.mg_of X G v_MAX_TERM
  have mv_MAX_PAIRS := PySem.W.mg_of X G v_MAX_PAIRS
  have mv_MAX_TEETH := PySem.W.mg_of X G v_MAX_TEETH
  have mv_MAX_STOCK := PySem.W.mg_of X G v_MAX_STOCK
  have nd_MAX_BOUND : (("MAX_BOUND" : Str) == ("__debug__" : Str)) = false := by decide
  have nd_MAX_NUMBER : (("MAX_NUMBER" : Str) == ("__debug__" : Str)) = false := by decide
  have nd_MAX_TERM : (("MAX_TERM" : Str) == ("__debug__" : Str)) = false := by decide
  have nd_MAX_PAIRS : (("MAX_PAIRS" : Str) == ("__debug__" : Str)) = false := by decide
  have nd_MAX_TEETH : (("MAX_TEETH" : Str) == ("__debug__" : Str)) = false := by decide
  have nd_MAX_STOCK : (("MAX_STOCK" : Str) == ("__debug__" : Str)) = false := by decide
  have nd_ArgumentError : (("ArgumentError" : Str) == ("__debug__" : Str)) = false := by decide
  have mc_ArgumentError := PySem.W.mg_of X G n_ArgumentError
  have ek_ArgumentError : ErrK K a_ArgumentError := ⟨ga_ArgumentError, gg_ArgumentError, bx_ArgumentError, hd_ArgumentError, cla_ArgumentError, spe, tke, ob_ArgumentError⟩
  have O : OrcOk K (orc (⟨a_ArgumentError⟩ : CA)) := by
    constructor
    · intro D c b e
      simp only [orc] at e
      by_cases hD : D = a_ArgumentError
      · have hD := hD.symm; subst hD
        simp only [if_true] at e
        by_cases hc : c = a_ArgumentError
        · have hc := hc.symm; subst hc
          simp only [if_true] at e
          cases e
          obtain ⟨e1, e2⟩ := orc_pair bx_ArgumentError hd_ArgumentError ty_ArgumentError sub_ArgumentError_ArgumentError self_ArgumentError
          exact ⟨e1, e2, ek_ArgumentError.c⟩
        rw [if_neg hc] at e
        cases e
      rw [if_neg hD] at e
      cases e
    · intro D f e
      simp only [orc] at e
      by_cases hD : D = a_ArgumentError
      · have hD := hD.symm; subst hD
        simp only [if_true] at e
        have e := of_decide_eq_true e
        exact ⟨lit1 (P := fun g => PySem.W.findIn K (.ref a_ArgumentError) g = some none) no_reason_ArgumentError f e, ek_ArgumentError.x⟩
      rw [if_neg hD] at e
      cases e
  obtain ⟨f, fd, h1, h2, F3, b, bt⟩ := d_law
  have ef := hfa.symm.trans h1
  cases ef
  refine ⟨fd, F_law (⟨a_ArgumentError⟩ : CA), fun s u => bt s [u] rfl, ⟨_, rfl, rfl⟩, fun base KB GB => ?_⟩
  have in_ArgumentError : IniT PySem.Challenge.pw_geartrue_k27_whole_nearest_wheels_and_fr K mg a_ArgumentError D_ArgumentError fI_ArgumentError ["reason"] (args1 "reason" (fun n => ([⟨22, 17, 22, 21⟩, ⟨22, 23, 22, 29⟩, ⟨0, 0, 0, 0⟩, ⟨23, 8, 23, 13⟩, ⟨23, 8, 23, 15⟩, ⟨23, 8, 23, 24⟩, ⟨23, 8, 23, 32⟩, ⟨23, 8, 23, 32⟩, ⟨23, 25, 23, 31⟩, ⟨0, 0, 0, 0⟩, ⟨24, 8, 24, 12⟩, ⟨24, 8, 24, 19⟩, ⟨24, 22, 24, 28⟩, ⟨24, 8, 24, 28⟩, ⟨0, 0, 0, 0⟩, ⟨0, 0, 0, 0⟩, ⟨0, 0, 0, 0⟩, ⟨0, 0, 0, 0⟩] : List Pos).getD n ⟨0, 0, 0, 0⟩)) (body1 "reason" (fun n => ([⟨22, 17, 22, 21⟩, ⟨22, 23, 22, 29⟩, ⟨0, 0, 0, 0⟩, ⟨23, 8, 23, 13⟩, ⟨23, 8, 23, 15⟩, ⟨23, 8, 23, 24⟩, ⟨23, 8, 23, 32⟩, ⟨23, 8, 23, 32⟩, ⟨23, 25, 23, 31⟩, ⟨0, 0, 0, 0⟩, ⟨24, 8, 24, 12⟩, ⟨24, 8, 24, 19⟩, ⟨24, 22, 24, 28⟩, ⟨24, 8, 24, 28⟩, ⟨0, 0, 0, 0⟩, ⟨0, 0, 0, 0⟩, ⟨0, 0, 0, 0⟩, ⟨0, 0, 0, 0⟩] : List Pos).getD n ⟨0, 0, 0, 0⟩)) := ini_mk xC_ArgumentError sa_ArgumentError iC_ArgumentError tC_ArgumentError lF_ArgumentError cI_ArgumentError lcd_ArgumentError h2_ArgumentError hf_ArgumentError lcc_ArgumentError hD_ArgumentError hsub_ArgumentError sup_ArgumentError opq isVE_ArgumentError kC_ArgumentError bx_ArgumentError ty_ArgumentError (lit1 no_reason_ArgumentError) rv_ArgumentError s1_ArgumentError s2_ArgumentError s3_ArgumentError s4_ArgumentError s5_ArgumentError s6_ArgumentError s7_ArgumentError (lit1 s8_reason_ArgumentError) top m_super
  have ex_ArgumentError : ExcG PySem.Challenge.pw_geartrue_k27_whole_nearest_wheels_and_fr w K mg base a_ArgumentError ["reason"] := exg1 in_ArgumentError (by decide) (by decide) (fun _ _ _ _ _ _ _ _ _ _ => by with_unfolding_all rfl) (fun _ => ⟨_, rfl⟩) (fun _ => rfl)
  have cg_common_divisor : CalG PySem.Challenge.pw_geartrue_k27_whole_nearest_wheels_and_fr w K mg base 1 "common_divisor" ["first", "second"] (F_common_divisor (⟨a_ArgumentError⟩ : CA)) := cal_of (k := 0) stdM_ok O d_common_divisor rfl sc_common_divisor (fun Y S => g_list (l := G_common_divisor (⟨a_ArgumentError⟩ : CA)) (.cons (gok_bi S m_abs ok_abs) .nil))
  have cg_is_integer : CalG PySem.Challenge.pw_geartrue_k27_whole_nearest_wheels_and_fr w K mg base 1 "is_integer" ["value"] (F_is_integer (⟨a_ArgumentError⟩ : CA)) := cal_of (k := 0) stdM_ok O d_is_integer rfl sc_is_integer (fun Y S => g_list (l := G_is_integer (⟨a_ArgumentError⟩ : CA)) (.cons (gok_bi S m_isinstance ok_isi) (.cons (gok_bi S m_int ok_int) (.cons (gok_bi S m_bool ok_bool) .nil))))
  have cg_in_range : CalG PySem.Challenge.pw_geartrue_k27_whole_nearest_wheels_and_fr w K mg base 2 "in_range" ["value", "least", "most"] (F_in_range (⟨a_ArgumentError⟩ : CA)) := cal_of (k := 1) stdM_ok O d_in_range rfl sc_in_range (fun Y S => g_list (l := G_in_range (⟨a_ArgumentError⟩ : CA)) (.cons (gok_fn S cg_is_integer (by decide) (by decide)) .nil))
  have cg_is_bounded : CalG PySem.Challenge.pw_geartrue_k27_whole_nearest_wheels_and_fr w K mg base 3 "is_bounded" ["value", "most"] (F_is_bounded (⟨a_ArgumentError⟩ : CA)) := cal_of (k := 2) stdM_ok O d_is_bounded rfl sc_is_bounded (fun Y S => g_list (l := G_is_bounded (⟨a_ArgumentError⟩ : CA)) (.cons (gok_fn S cg_common_divisor (by decide) (by decide)) (.cons (gok_bi S m_isinstance ok_isi) (.cons (gok_bi S m_tuple ok_tuple) (.cons (gok_bi S m_len ok_len) (.cons (gok_bi S m_all ok_all) (.cons (gok_fn S cg_in_range (by decide) (by decide)) .nil)))))))
  have cg_parents : CalG PySem.Challenge.pw_geartrue_k27_whole_nearest_wheels_and_fr w K mg base 4 "parents" ["part"] (F_parents (⟨a_ArgumentError⟩ : CA)) := cal_of (k := 3) stdM_ok O d_parents rfl sc_parents (fun Y S => g_list (l := G_parents (⟨a_ArgumentError⟩ : CA)) (.cons (gok_it S m_range) (.cons (gok_fn S cg_is_bounded (by decide) (by decide)) (.cons (gok_kv S mv_MAX_BOUND kv_int nd_MAX_BOUND) (.cons (gok_ex S (by decide) mc_ArgumentError ex_ArgumentError nd_ArgumentError) .nil)))))
  have cg_are_neighbours : CalG PySem.Challenge.pw_geartrue_k27_whole_nearest_wheels_and_fr w K mg base 4 "are_neighbours" ["first", "second"] (F_are_neighbours (⟨a_ArgumentError⟩ : CA)) := cal_of (k := 3) stdM_ok O d_are_neighbours rfl sc_are_neighbours (fun Y S => g_list (l := G_are_neighbours (⟨a_ArgumentError⟩ : CA)) (.cons (gok_bi S m_abs ok_abs) (.cons (gok_fn S cg_is_bounded (by decide) (by decide)) (.cons (gok_kv S mv_MAX_BOUND kv_int nd_MAX_BOUND) (.cons (gok_ex S (by decide) mc_ArgumentError ex_ArgumentError nd_ArgumentError) .nil)))))
  have cg_l_less : CalG PySem.Challenge.pw_geartrue_k27_whole_nearest_wheels_and_fr w K mg base 1 "_law_less" ["one", "other"] (F_l_less (⟨a_ArgumentError⟩ : CA)) := cal_of (k := 0) stdM_ok O d_l_less rfl sc_l_less (fun Y S => g_list (l := G_l_less (⟨a_ArgumentError⟩ : CA)) .nil)
  have cg_l_fraction : CalG PySem.Challenge.pw_geartrue_k27_whole_nearest_wheels_and_fr w K mg base 1 "_law_fraction" ["over", "under"] (F_l_fraction (⟨a_ArgumentError⟩ : CA)) := cal_of (k := 0) stdM_ok O d_l_fraction rfl sc_l_fraction (fun Y S => g_list (l := G_l_fraction (⟨a_ArgumentError⟩ : CA)) (.cons (gok_bi S m_int ok_int) (.cons (gok_bi S m_abs ok_abs) .nil)))
  have cg_l_sum : CalG PySem.Challenge.pw_geartrue_k27_whole_nearest_wheels_and_fr w K mg base 2 "_law_sum" ["one", "other"] (F_l_sum (⟨a_ArgumentError⟩ : CA)) := cal_of (k := 1) stdM_ok O d_l_sum rfl sc_l_sum (fun Y S => g_list (l := G_l_sum (⟨a_ArgumentError⟩ : CA)) (.cons (gok_fn S cg_l_fraction (by decide) (by decide)) .nil))
  have cg_l_minus : CalG PySem.Challenge.pw_geartrue_k27_whole_nearest_wheels_and_fr w K mg base 1 "_law_minus" ["one"] (F_l_minus (⟨a_ArgumentError⟩ : CA)) := cal_of (k := 0) stdM_ok O d_l_minus rfl sc_l_minus (fun Y S => g_list (l := G_l_minus (⟨a_ArgumentError⟩ : CA)) .nil)
  have cg_l_gap : CalG PySem.Challenge.pw_geartrue_k27_whole_nearest_wheels_and_fr w K mg base 3 "_law_gap" ["one", "other"] (F_l_gap (⟨a_ArgumentError⟩ : CA)) := cal_of (k := 2) stdM_ok O d_l_gap rfl sc_l_gap (fun Y S => g_list (l := G_l_gap (⟨a_ArgumentError⟩ : CA)) (.cons (gok_bi S m_abs ok_abs) (.cons (gok_fn S cg_l_sum (by decide) (by decide)) (.cons (gok_fn S cg_l_minus (by decide) (by decide)) .nil))))
  have cg_least : CalG PySem.Challenge.pw_geartrue_k27_whole_nearest_wheels_and_fr w K mg base 2 "least" ["over", "under"] (F_least (⟨a_ArgumentError⟩ : CA)) := cal_of (k := 1) stdM_ok O d_least rfl sc_least (fun Y S => g_list (l := G_least (⟨a_ArgumentError⟩ : CA)) (.cons (gok_fn S cg_common_divisor (by decide) (by decide)) .nil))
  have cg_minus : CalG PySem.Challenge.pw_geartrue_k27_whole_nearest_wheels_and_fr w K mg base 3 "minus" ["one", "other"] (F_minus (⟨a_ArgumentError⟩ : CA)) := cal_of (k := 2) stdM_ok O d_minus rfl sc_minus (fun Y S => g_list (l := G_minus (⟨a_ArgumentError⟩ : CA)) (.cons (gok_fn S cg_least (by decide) (by decide)) .nil))
  have cg_times : CalG PySem.Challenge.pw_geartrue_k27_whole_nearest_wheels_and_fr w K mg base 3 "times" ["one", "other"] (F_times (⟨a_ArgumentError⟩ : CA)) := cal_of (k := 2) stdM_ok O d_times rfl sc_times (fun Y S => g_list (l := G_times (⟨a_ArgumentError⟩ : CA)) (.cons (gok_fn S cg_least (by decide) (by decide)) .nil))
  have cg_error_of : CalG PySem.Challenge.pw_geartrue_k27_whole_nearest_wheels_and_fr w K mg base 4 "error_of" ["ratio", "found"] (F_error_of (⟨a_ArgumentError⟩ : CA)) := cal_of (k := 3) stdM_ok O d_error_of rfl sc_error_of (fun Y S => g_list (l := G_error_of (⟨a_ArgumentError⟩ : CA)) (.cons (gok_fn S cg_minus (by decide) (by decide)) (.cons (gok_fn S cg_times (by decide) (by decide)) .nil)))
  have cg_demand_ratio : CalG PySem.Challenge.pw_geartrue_k27_whole_nearest_wheels_and_fr w K mg base 3 "demand_ratio" ["value"] (F_demand_ratio (⟨a_ArgumentError⟩ : CA)) := cal_of (k := 2) stdM_ok O d_demand_ratio rfl sc_demand_ratio (fun Y S => g_list (l := G_demand_ratio (⟨a_ArgumentError⟩ : CA)) (.cons (gok_fn S cg_common_divisor (by decide) (by decide)) (.cons (gok_ex S (by decide) mc_ArgumentError ex_ArgumentError nd_ArgumentError) (.cons (gok_bi S m_isinstance ok_isi) (.cons (gok_bi S m_tuple ok_tuple) (.cons (gok_bi S m_len ok_len) (.cons (gok_bi S m_all ok_all) (.cons (gok_fn S cg_in_range (by decide) (by decide)) (.cons (gok_kv S mv_MAX_NUMBER kv_int nd_MAX_NUMBER) .nil)))))))))
  have cg_error : CalG PySem.Challenge.pw_geartrue_k27_whole_nearest_wheels_and_fr w K mg base 5 "error" ["ratio", "found"] (F_error (⟨a_ArgumentError⟩ : CA)) := cal_of (k := 4) stdM_ok O d_error rfl sc_error (fun Y S => g_list (l := G_error (⟨a_ArgumentError⟩ : CA)) (.cons (gok_fn S cg_error_of (by decide) (by decide)) (.cons (gok_fn S cg_is_bounded (by decide) (by decide)) (.cons (gok_kv S mv_MAX_NUMBER kv_int nd_MAX_NUMBER) (.cons (gok_ex S (by decide) mc_ArgumentError ex_ArgumentError nd_ArgumentError) (.cons (gok_fn S cg_demand_ratio (by decide) (by decide)) .nil))))))
  have cg_terms : CalG PySem.Challenge.pw_geartrue_k27_whole_nearest_wheels_and_fr w K mg base 4 "terms" ["ratio"] (F_terms (⟨a_ArgumentError⟩ : CA)) := cal_of (k := 3) stdM_ok O d_terms rfl sc_terms (fun Y S => g_list (l := G_terms (⟨a_ArgumentError⟩ : CA)) (.cons (gok_bi S m_tuple ok_tuple) (.cons (gok_fn S cg_demand_ratio (by decide) (by decide)) .nil)))
  have cg_stages : CalG PySem.Challenge.pw_geartrue_k27_whole_nearest_wheels_and_fr w K mg base 5 "stages" ["ratio"] (F_stages (⟨a_ArgumentError⟩ : CA)) := cal_of (k := 4) stdM_ok O d_stages rfl sc_stages (fun Y S => g_list (l := G_stages (⟨a_ArgumentError⟩ : CA)) (.cons (gok_bi S m_tuple ok_tuple) (.cons (gok_fn S cg_terms (by decide) (by decide)) .nil)))
  have cg_is_part : CalG PySem.Challenge.pw_geartrue_k27_whole_nearest_wheels_and_fr w K mg base 4 "is_part" ["value", "most"] (F_is_part (⟨a_ArgumentError⟩ : CA)) := cal_of (k := 3) stdM_ok O d_is_part rfl sc_is_part (fun Y S => g_list (l := G_is_part (⟨a_ArgumentError⟩ : CA)) (.cons (gok_fn S cg_is_bounded (by decide) (by decide)) .nil))
  have cg_demand_part : CalG PySem.Challenge.pw_geartrue_k27_whole_nearest_wheels_and_fr w K mg base 5 "demand_part" ["most", "value"] (F_demand_part (⟨a_ArgumentError⟩ : CA)) := cal_of (k := 4) stdM_ok O d_demand_part rfl sc_demand_part (fun Y S => g_list (l := G_demand_part (⟨a_ArgumentError⟩ : CA)) (.cons (gok_fn S cg_is_part (by decide) (by decide)) (.cons (gok_ex S (by decide) mc_ArgumentError ex_ArgumentError nd_ArgumentError) .nil)))
  have cg_demand_bound : CalG PySem.Challenge.pw_geartrue_k27_whole_nearest_wheels_and_fr w K mg base 3 "demand_bound" ["most"] (F_demand_bound (⟨a_ArgumentError⟩ : CA)) := cal_of (k := 2) stdM_ok O d_demand_bound rfl sc_demand_bound (fun Y S => g_list (l := G_demand_bound (⟨a_ArgumentError⟩ : CA)) (.cons (gok_fn S cg_in_range (by decide) (by decide)) (.cons (gok_kv S mv_MAX_BOUND kv_int nd_MAX_BOUND) (.cons (gok_ex S (by decide) mc_ArgumentError ex_ArgumentError nd_ArgumentError) .nil))))
  have cg_next_part : CalG PySem.Challenge.pw_geartrue_k27_whole_nearest_wheels_and_fr w K mg base 6 "next_part" ["most", "part"] (F_next_part (⟨a_ArgumentError⟩ : CA)) := cal_of (k := 5) stdM_ok O d_next_part rfl sc_next_part (fun Y S => g_list (l := G_next_part (⟨a_ArgumentError⟩ : CA)) (.cons (gok_it S m_range) (.cons (gok_fn S cg_demand_part (by decide) (by decide)) (.cons (gok_fn S cg_demand_bound (by decide) (by decide)) .nil))))
  have cg_all_parts : CalG PySem.Challenge.pw_geartrue_k27_whole_nearest_wheels_and_fr w K mg base 7 "all_parts" ["most"] (F_all_parts (⟨a_ArgumentError⟩ : CA)) := cal_of (k := 6) stdM_ok O d_all_parts rfl sc_all_parts (fun Y S => g_list (l := G_all_parts (⟨a_ArgumentError⟩ : CA)) (.cons (gok_bi S m_tuple ok_tuple) (.cons (gok_fn S cg_next_part (by decide) (by decide)) (.cons (gok_fn S cg_demand_bound (by decide) (by decide)) .nil))))
  have cg_steps_towards : CalG PySem.Challenge.pw_geartrue_k27_whole_nearest_wheels_and_fr w K mg base 1 "steps_towards" ["low", "high", "ratio", "most", "up"] (F_steps_towards (⟨a_ArgumentError⟩ : CA)) := cal_of (k := 0) stdM_ok O d_steps_towards rfl sc_steps_towards (fun Y S => g_list (l := G_steps_towards (⟨a_ArgumentError⟩ : CA)) (.cons (gok_bi S m_min ok_min) (.cons (gok_it S m_zip) .nil)))
  have cg_neighbours : CalG PySem.Challenge.pw_geartrue_k27_whole_nearest_wheels_and_fr w K mg base 2 "neighbours" ["ratio", "most"] (F_neighbours (⟨a_ArgumentError⟩ : CA)) := cal_of (k := 1) stdM_ok O d_neighbours rfl sc_neighbours (fun Y S => g_list (l := G_neighbours (⟨a_ArgumentError⟩ : CA)) (.cons (gok_fn S cg_steps_towards (by decide) (by decide)) .nil))
  have cg_demand_most : CalG PySem.Challenge.pw_geartrue_k27_whole_nearest_wheels_and_fr w K mg base 3 "demand_most" ["most"] (F_demand_most (⟨a_ArgumentError⟩ : CA)) := cal_of (k := 2) stdM_ok O d_demand_most rfl sc_demand_most (fun Y S => g_list (l := G_demand_most (⟨a_ArgumentError⟩ : CA)) (.cons (gok_fn S cg_in_range (by decide) (by decide)) (.cons (gok_kv S mv_MAX_TERM kv_int nd_MAX_TERM) (.cons (gok_ex S (by decide) mc_ArgumentError ex_ArgumentError nd_ArgumentError) .nil))))
  have cg_around : CalG PySem.Challenge.pw_geartrue_k27_whole_nearest_wheels_and_fr w K mg base 4 "around" ["ratio", "most"] (F_around (⟨a_ArgumentError⟩ : CA)) := cal_of (k := 3) stdM_ok O d_around rfl sc_around (fun Y S => g_list (l := G_around (⟨a_ArgumentError⟩ : CA)) (.cons (gok_fn S cg_neighbours (by decide) (by decide)) (.cons (gok_bi S m_max ok_max) (.cons (gok_fn S cg_demand_most (by decide) (by decide)) (.cons (gok_fn S cg_demand_ratio (by decide) (by decide)) .nil)))))
  have cg_l_more : CalG PySem.Challenge.pw_geartrue_k27_whole_nearest_wheels_and_fr w K mg base 1 "_law_more" ["draws", "place"] (F_l_more (⟨a_ArgumentError⟩ : CA)) := cal_of (k := 0) stdM_ok O d_l_more rfl sc_l_more (fun Y S => g_list (l := G_l_more (⟨a_ArgumentError⟩ : CA)) (.cons (gok_it S m_range) (.cons (gok_bi S m_int ok_int) (.cons (gok_bi S m_len ok_len) .nil))))
  have cg_l_take : CalG PySem.Challenge.pw_geartrue_k27_whole_nearest_wheels_and_fr w K mg base 2 "_law_take" ["draws", "at", "many"] (F_l_take (⟨a_ArgumentError⟩ : CA)) := cal_of (k := 1) stdM_ok O d_l_take rfl sc_l_take (fun Y S => g_list (l := G_l_take (⟨a_ArgumentError⟩ : CA)) (.cons (gok_bi S m_int ok_int) (.cons (gok_bi S m_len ok_len) (.cons (gok_fn S cg_l_more (by decide) (by decide)) .nil))))
  have rg_rows_from : ∀ k : Nat, CalG PySem.Challenge.pw_geartrue_k27_whole_nearest_wheels_and_fr w K mg base (0 + k) "rows_from" ["places", "count"] (R_rows_from (⟨a_ArgumentError⟩ : CA) k) := by
    intro k
    induction k with
    | zero => exact cal_bad d_rows_from
    | succ k ih => exact cal_of (k := 0 + k) stdM_ok O d_rows_from rfl sc_rows_from (fun Y S => g_list (l := G_rows_from (R_rows_from (⟨a_ArgumentError⟩ : CA) k) (⟨a_ArgumentError⟩ : CA)) (.cons (gok_it S m_range) (.cons (gok_bi S m_len ok_len) (.cons (gok_fn S ih (Nat.le_refl _) (by decide)) .nil))))
  have cg_rows_from : CalG PySem.Challenge.pw_geartrue_k27_whole_nearest_wheels_and_fr w K mg base 8 "rows_from" ["places", "count"] (F_rows_from (⟨a_ArgumentError⟩ : CA)) := rg_rows_from 8
  have cg_teeth_of : CalG PySem.Challenge.pw_geartrue_k27_whole_nearest_wheels_and_fr w K mg base 1 "teeth_of" ["stock", "row"] (F_teeth_of (⟨a_ArgumentError⟩ : CA)) := cal_of (k := 0) stdM_ok O d_teeth_of rfl sc_teeth_of (fun Y S => g_list (l := G_teeth_of (⟨a_ArgumentError⟩ : CA)) .nil)
  have cg_choices_of : CalG PySem.Challenge.pw_geartrue_k27_whole_nearest_wheels_and_fr w K mg base 9 "choices_of" ["stock", "pairs"] (F_choices_of (⟨a_ArgumentError⟩ : CA)) := cal_of (k := 8) stdM_ok O d_choices_of rfl sc_choices_of (fun Y S => g_list (l := G_choices_of (⟨a_ArgumentError⟩ : CA)) (.cons (gok_fn S cg_rows_from (by decide) (by decide)) (.cons (gok_fn S cg_least (by decide) (by decide)) (.cons (gok_fn S cg_teeth_of (by decide) (by decide)) (.cons (gok_bi S m_list ok_list) (.cons (gok_it S m_range) (.cons (gok_bi S m_len ok_len) .nil)))))))
  have cg_is_below : CalG PySem.Challenge.pw_geartrue_k27_whole_nearest_wheels_and_fr w K mg base 1 "is_below" ["one", "other"] (F_is_below (⟨a_ArgumentError⟩ : CA)) := cal_of (k := 0) stdM_ok O d_is_below rfl sc_is_below (fun Y S => g_list (l := G_is_below (⟨a_ArgumentError⟩ : CA)) .nil)
  have cg_far_from : CalG PySem.Challenge.pw_geartrue_k27_whole_nearest_wheels_and_fr w K mg base 4 "far_from" ["ratio", "found"] (F_far_from (⟨a_ArgumentError⟩ : CA)) := cal_of (k := 3) stdM_ok O d_far_from rfl sc_far_from (fun Y S => g_list (l := G_far_from (⟨a_ArgumentError⟩ : CA)) (.cons (gok_fn S cg_minus (by decide) (by decide)) .nil))
  have cg_demand_stock : CalG PySem.Challenge.pw_geartrue_k27_whole_nearest_wheels_and_fr w K mg base 3 "demand_stock" ["stock", "pairs"] (F_demand_stock (⟨a_ArgumentError⟩ : CA)) := cal_of (k := 2) stdM_ok O d_demand_stock rfl sc_demand_stock (fun Y S => g_list (l := G_demand_stock (⟨a_ArgumentError⟩ : CA)) (.cons (gok_fn S cg_in_range (by decide) (by decide)) (.cons (gok_kv S mv_MAX_PAIRS kv_int nd_MAX_PAIRS) (.cons (gok_bi S m_len ok_len) (.cons (gok_ex S (by decide) mc_ArgumentError ex_ArgumentError nd_ArgumentError) (.cons (gok_bi S m_all ok_all) (.cons (gok_kv S mv_MAX_TEETH kv_int nd_MAX_TEETH) (.cons (gok_bi S m_isinstance ok_isi) (.cons (gok_bi S m_tuple ok_tuple) (.cons (gok_kv S mv_MAX_STOCK kv_int nd_MAX_STOCK) .nil))))))))))
  have cg_best_train : CalG PySem.Challenge.pw_geartrue_k27_whole_nearest_wheels_and_fr w K mg base 10 "best_train" ["ratio", "stock", "pairs"] (F_best_train (⟨a_ArgumentError⟩ : CA)) := cal_of (k := 9) stdM_ok O d_best_train rfl sc_best_train (fun Y S => g_list (l := G_best_train (⟨a_ArgumentError⟩ : CA)) (.cons (gok_fn S cg_choices_of (by decide) (by decide)) (.cons (gok_fn S cg_is_below (by decide) (by decide)) (.cons (gok_fn S cg_far_from (by decide) (by decide)) (.cons (gok_fn S cg_demand_stock (by decide) (by decide)) (.cons (gok_fn S cg_demand_ratio (by decide) (by decide)) .nil))))))
  have cg_nearest : CalG PySem.Challenge.pw_geartrue_k27_whole_nearest_wheels_and_fr w K mg base 5 "nearest" ["ratio", "most"] (F_nearest (⟨a_ArgumentError⟩ : CA)) := cal_of (k := 4) stdM_ok O d_nearest rfl sc_nearest (fun Y S => g_list (l := G_nearest (⟨a_ArgumentError⟩ : CA)) (.cons (gok_fn S cg_is_below (by decide) (by decide)) (.cons (gok_fn S cg_minus (by decide) (by decide)) (.cons (gok_fn S cg_around (by decide) (by decide)) .nil))))
  have cg_l_draws : CalG PySem.Challenge.pw_geartrue_k27_whole_nearest_wheels_and_fr w K mg base 1 "_law_draws" ["script"] (F_l_draws (⟨a_ArgumentError⟩ : CA)) := cal_of (k := 0) stdM_ok O d_l_draws rfl sc_l_draws (fun Y S => g_list (l := G_l_draws (⟨a_ArgumentError⟩ : CA)) (.cons (gok_it S m_range) (.cons (gok_bi S m_int ok_int) (.cons (gok_bi S m_abs ok_abs) .nil))))
  exact fnG_of (k := 10) stdM_ok O (.of F3) rfl sc_law (fun Y S => g_list (l := G_law (⟨a_ArgumentError⟩ : CA)) (.cons (gok_it S m_range) (.cons (gok_fn S cg_parents (by decide) (by decide)) (.cons (gok_bi S m_len ok_len) (.cons (gok_fn S cg_are_neighbours (by decide) (by decide)) (.cons (gok_fn S cg_l_less (by decide) (by decide)) (.cons (gok_fn S cg_l_gap (by decide) (by decide)) (.cons (gok_fn S cg_error (by decide) (by decide)) (.cons (gok_fn S cg_stages (by decide) (by decide)) (.cons (gok_bi S m_repr ok_repr) (.cons (gok_fn S cg_next_part (by decide) (by decide)) (.cons (gok_fn S cg_all_parts (by decide) (by decide)) (.cons (gok_fn S cg_around (by decide) (by decide)) (.cons (gok_fn S cg_l_take (by decide) (by decide)) (.cons (gok_fn S cg_best_train (by decide) (by decide)) (.cons (gok_fn S cg_nearest (by decide) (by decide)) (.cons (gok_bi S m_tuple ok_tuple) (.cons (gok_fn S cg_l_fraction (by decide) (by decide)) (.cons (gok_fn S cg_l_draws (by decide) (by decide)) .nil)))))))))))))))))))
end K27
open PySem PySem.W PyProof.Rows
set_option maxRecDepth 100000 in
set_option maxHeartbeats 8000000 in
theorem PySem.Challenge.cw_geartrue_k27_whole_nearest_wheels_and_fr_holds : PySem.Challenge.rw_geartrue_k27_whole_nearest_wheels_and_fr.Holds := by
  w_on; o_law; k_head; (case hw => w_witness2)
  k_fill
  refine DL.walk_do (n := 63) (k := 11) (x := "script") (by decide +kernel) (by rw [sizeLine_eq]; decide) rfl ⟨rfl, by decide, by decide⟩ (fun w h Y => PySem.W.kIn_of Y) ?F
  case F =>
    intro w mg fa h Y KX G hmg
    have key := by
      refine' K27.all_mk (w := w) KX G hmg ?n_ArgumentError ?bx_ArgumentError ?hd_ArgumentError ?ty_ArgumentError ?spe ?tke ?opq ?xC_ArgumentError ?sa_ArgumentError ?iC_ArgumentError ?tC_ArgumentError ?lF_ArgumentError ?cI_ArgumentError ?lcd_ArgumentError ?h2_ArgumentError ?hf_ArgumentError ?lcc_ArgumentError ?hD_ArgumentError ?hsub_ArgumentError ?sup_ArgumentError ?isVE_ArgumentError ?kC_ArgumentError ?no_reason_ArgumentError ?rv_ArgumentError ?s1_ArgumentError ?s2_ArgumentError ?s3_ArgumentError ?s4_ArgumentError ?s5_ArgumentError ?s6_ArgumentError ?s7_ArgumentError ?s8_reason_ArgumentError ?ga_ArgumentError ?gg_ArgumentError ?cla_ArgumentError ?ob_ArgumentError ?self_ArgumentError ?sub_ArgumentError_ArgumentError ?top ?z_abs ?z_isinstance ?z_int ?z_bool ?z_tuple ?z_len ?z_all ?z_min ?z_max ?z_list ?z_repr ?z_range ?z_zip ?z_super ?v_MAX_BOUND ?v_MAX_NUMBER ?v_MAX_TERM ?v_MAX_PAIRS ?v_MAX_TEETH ?v_MAX_STOCK ?a_common_divisor ?l_common_divisor ?c_common_divisor ?k_common_divisor ?a_is_integer ?l_is_integer ?c_is_integer ?k_is_integer ?a_in_range ?l_in_range ?c_in_range ?k_in_range ?a_is_bounded ?l_is_bounded ?c_is_bounded ?k_is_bounded ?a_parents ?l_parents ?c_parents ?k_parents ?a_are_neighbours ?l_are_neighbours ?c_are_neighbours ?k_are_neighbours ?a_l_less ?l_l_less ?c_l_less ?k_l_less ?a_l_fraction ?l_l_fraction ?c_l_fraction ?k_l_fraction ?a_l_sum ?l_l_sum ?c_l_sum ?k_l_sum ?a_l_minus ?l_l_minus ?c_l_minus ?k_l_minus ?a_l_gap ?l_l_gap ?c_l_gap ?k_l_gap ?a_least ?l_least ?c_least ?k_least ?a_minus ?l_minus ?c_minus ?k_minus ?a_times ?l_times ?c_times ?k_times ?a_error_of ?l_error_of ?c_error_of ?k_error_of ?a_demand_ratio ?l_demand_ratio ?c_demand_ratio ?k_demand_ratio ?a_error ?l_error ?c_error ?k_error ?a_terms ?l_terms ?c_terms ?k_terms ?a_stages ?l_stages ?c_stages ?k_stages ?a_is_part ?l_is_part ?c_is_part ?k_is_part ?a_demand_part ?l_demand_part ?c_demand_part ?k_demand_part ?a_demand_bound ?l_demand_bound ?c_demand_bound ?k_demand_bound ?a_next_part ?l_next_part ?c_next_part ?k_next_part ?a_all_parts ?l_all_parts ?c_all_parts ?k_all_parts ?a_steps_towards ?l_steps_towards ?c_steps_towards ?k_steps_towards ?a_neighbours ?l_neighbours ?c_neighbours ?k_neighbours ?a_demand_most ?l_demand_most ?c_demand_most ?k_demand_most ?a_around ?l_around ?c_around ?k_around ?a_l_more ?l_l_more ?c_l_more ?k_l_more ?a_l_take ?l_l_take ?c_l_take ?k_l_take ?a_rows_from ?l_rows_from ?c_rows_from ?k_rows_from ?a_teeth_of ?l_teeth_of ?c_teeth_of ?k_teeth_of ?a_choices_of ?l_choices_of ?c_choices_of ?k_choices_of ?a_is_below ?l_is_below ?c_is_below ?k_is_below ?a_far_from ?l_far_from ?c_far_from ?k_far_from ?a_demand_stock ?l_demand_stock ?c_demand_stock ?k_demand_stock ?a_best_train ?l_best_train ?c_best_train ?k_best_train ?a_nearest ?l_nearest ?c_nearest ?k_nearest ?a_l_draws ?l_l_draws ?c_l_draws ?k_l_draws ?a_law ?l_law ?c_law ?k_law
      (case n_ArgumentError => k_is)
      (case bx_ArgumentError => k_is)
      (case hd_ArgumentError => k_is)
      (case ty_ArgumentError => k_is)
      (case spe => k_is)
      (case tke => k_is)
      (case opq => k_is)
      (case xC_ArgumentError => k_is)
      (case sa_ArgumentError => k_is)
      (case iC_ArgumentError => k_is)
      (case tC_ArgumentError => k_is)
      (case lF_ArgumentError => k_is)
      (case cI_ArgumentError => k_is)
      (case lcd_ArgumentError => k_is)
      (case h2_ArgumentError => rfl)
      (case hf_ArgumentError => (first | rfl | decide +kernel))
      (case lcc_ArgumentError => k_is)
      (case hD_ArgumentError => k_is)
      (case hsub_ArgumentError => k_is)
      (case sup_ArgumentError => ks_is)
      (case isVE_ArgumentError => k_is)
      (case kC_ArgumentError => k_is)
      (case no_reason_ArgumentError => k_is)
      (case rv_ArgumentError => (first | rfl | decide +kernel))
      (case s1_ArgumentError => rfl)
      (case s2_ArgumentError => rfl)
      (case s3_ArgumentError => rfl)
      (case s4_ArgumentError => decide +kernel)
      (case s5_ArgumentError => decide +kernel)
      (case s6_ArgumentError => decide +kernel)
      (case s7_ArgumentError => decide +kernel)
      (case s8_reason_ArgumentError => decide +kernel)
      (case ga_ArgumentError => k_is)
      (case gg_ArgumentError => k_is)
      (case cla_ArgumentError => k_is)
      (case ob_ArgumentError => k_is)
      (case self_ArgumentError => k_is)
      (case sub_ArgumentError_ArgumentError => k_is)
      (case top => (first | rfl | decide +kernel))
      (case z_abs => k_is)
      (case z_isinstance => k_is)
      (case z_int => k_is)
      (case z_bool => k_is)
      (case z_tuple => k_is)
      (case z_len => k_is)
      (case z_all => k_is)
      (case z_min => k_is)
      (case z_max => k_is)
      (case z_list => k_is)
      (case z_repr => k_is)
      (case z_range => k_is)
      (case z_zip => k_is)
      (case z_super => k_is)
      (case v_MAX_BOUND => k_is)
      (case v_MAX_NUMBER => k_is)
      (case v_MAX_TERM => k_is)
      (case v_MAX_PAIRS => k_is)
      (case v_MAX_TEETH => k_is)
      (case v_MAX_STOCK => k_is)
      (case a_common_divisor => k_is)
      (case l_common_divisor => k_is)
      (case c_common_divisor => k_is)
      (case k_common_divisor => k_is)
      (case a_is_integer => k_is)
      (case l_is_integer => k_is)
      (case c_is_integer => k_is)
      (case k_is_integer => k_is)
      (case a_in_range => k_is)
      (case l_in_range => k_is)
      (case c_in_range => k_is)
      (case k_in_range => k_is)
      (case a_is_bounded => k_is)
      (case l_is_bounded => k_is)
      (case c_is_bounded => k_is)
      (case k_is_bounded => k_is)
      (case a_parents => k_is)
      (case l_parents => k_is)
      (case c_parents => k_is)
      (case k_parents => k_is)
      (case a_are_neighbours => k_is)
      (case l_are_neighbours => k_is)
      (case c_are_neighbours => k_is)
      (case k_are_neighbours => k_is)
      (case a_l_less => k_is)
      (case l_l_less => k_is)
      (case c_l_less => k_is)
      (case k_l_less => k_is)
      (case a_l_fraction => k_is)
      (case l_l_fraction => k_is)
      (case c_l_fraction => k_is)
      (case k_l_fraction => k_is)
      (case a_l_sum => k_is)
      (case l_l_sum => k_is)
      (case c_l_sum => k_is)
      (case k_l_sum => k_is)
      (case a_l_minus => k_is)
      (case l_l_minus => k_is)
      (case c_l_minus => k_is)
      (case k_l_minus => k_is)
      (case a_l_gap => k_is)
      (case l_l_gap => k_is)
      (case c_l_gap => k_is)
      (case k_l_gap => k_is)
      (case a_least => k_is)
      (case l_least => k_is)
      (case c_least => k_is)
      (case k_least => k_is)
      (case a_minus => k_is)
      (case l_minus => k_is)
      (case c_minus => k_is)
      (case k_minus => k_is)
      (case a_times => k_is)
      (case l_times => k_is)
      (case c_times => k_is)
      (case k_times => k_is)
      (case a_error_of => k_is)
      (case l_error_of => k_is)
      (case c_error_of => k_is)
      (case k_error_of => k_is)
      (case a_demand_ratio => k_is)
      (case l_demand_ratio => k_is)
      (case c_demand_ratio => k_is)
      (case k_demand_ratio => k_is)
      (case a_error => k_is)
      (case l_error => k_is)
      (case c_error => k_is)
      (case k_error => k_is)
      (case a_terms => k_is)
      (case l_terms => k_is)
      (case c_terms => k_is)
      (case k_terms => k_is)
      (case a_stages => k_is)
      (case l_stages => k_is)
      (case c_stages => k_is)
      (case k_stages => k_is)
      (case a_is_part => k_is)
      (case l_is_part => k_is)
      (case c_is_part => k_is)
      (case k_is_part => k_is)
      (case a_demand_part => k_is)
      (case l_demand_part => k_is)
      (case c_demand_part => k_is)
      (case k_demand_part => k_is)
      (case a_demand_bound => k_is)
      (case l_demand_bound => k_is)
      (case c_demand_bound => k_is)
      (case k_demand_bound => k_is)
      (case a_next_part => k_is)
      (case l_next_part => k_is)
      (case c_next_part => k_is)
      (case k_next_part => k_is)
      (case a_all_parts => k_is)
      (case l_all_parts => k_is)
      (case c_all_parts => k_is)
      (case k_all_parts => k_is)
      (case a_steps_towards => k_is)
      (case l_steps_towards => k_is)
      (case c_steps_towards => k_is)
      (case k_steps_towards => k_is)
      (case a_neighbours => k_is)
      (case l_neighbours => k_is)
      (case c_neighbours => k_is)
      (case k_neighbours => k_is)
      (case a_demand_most => k_is)
      (case l_demand_most => k_is)
      (case c_demand_most => k_is)
      (case k_demand_most => k_is)
      (case a_around => k_is)
      (case l_around => k_is)
      (case c_around => k_is)
      (case k_around => k_is)
      (case a_l_more => k_is)
      (case l_l_more => k_is)
      (case c_l_more => k_is)
      (case k_l_more => k_is)
      (case a_l_take => k_is)
      (case l_l_take => k_is)
      (case c_l_take => k_is)
      (case k_l_take => k_is)
      (case a_rows_from => k_is)
      (case l_rows_from => k_is)
      (case c_rows_from => k_is)
      (case k_rows_from => k_is)
      (case a_teeth_of => k_is)
      (case l_teeth_of => k_is)
      (case c_teeth_of => k_is)
      (case k_teeth_of => k_is)
      (case a_choices_of => k_is)
      (case l_choices_of => k_is)
      (case c_choices_of => k_is)
      (case k_choices_of => k_is)
      (case a_is_below => k_is)
      (case l_is_below => k_is)
      (case c_is_below => k_is)
      (case k_is_below => k_is)
      (case a_far_from => k_is)
      (case l_far_from => k_is)
      (case c_far_from => k_is)
      (case k_far_from => k_is)
      (case a_demand_stock => k_is)
      (case l_demand_stock => k_is)
      (case c_demand_stock => k_is)
      (case k_demand_stock => k_is)
      (case a_best_train => k_is)
      (case l_best_train => k_is)
      (case c_best_train => k_is)
      (case k_best_train => k_is)
      (case a_nearest => k_is)
      (case l_nearest => k_is)
      (case c_nearest => k_is)
      (case k_nearest => k_is)
      (case a_l_draws => k_is)
      (case l_l_draws => k_is)
      (case c_l_draws => k_is)
      (case k_l_draws => k_is)
      (case a_law => k_is)
      (case l_law => k_is)
      (case c_law => k_is)
      (case k_law => k_is)
    obtain ⟨fd, g, hb, ⟨C, rfl, hC⟩, hF⟩ := key
    refine ⟨fd, _, hb, fun ns hn => K27.law_true _ ns, hF⟩
