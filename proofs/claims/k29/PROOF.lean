import PyProof.Rows.All
import Wide.All
import OpenK.AllK
import Wide.FinOn
import HandS.ForMost
import HandS.ForExc
import HandS.Wide
import HandS.IsInst
import HandS.CallSlots
import HandS.Style
import HandS.Conv
import HandS.Deep
import KE.KDictZip
import HandS.More
import HandS.SortInts
import HandS.SortRule
import HandS.ExcIs
import HandS.TryOnly
import HandS.DictTup
import HandS.Defaults
import PySem.Challenge.RW_gapshelf_k29_deeds_refused
set_option Elab.async false
set_option linter.all false
set_option maxRecDepth 100000
set_option maxHeartbeats 4000000
set_option autoImplicit false
/-! A store of lists, dicts and instances; readings over it (W); how they stand over the hand layer's heaps. -/
namespace GS
open PySem PySem.Spec PyProof.Rows L2

/-- a value: tuples inline, lists, dicts, instances by their place in the store; rol: a list that is only read -/
inductive D where
  | non | bl (b : Bool) | int (i : Int) | str (x : Str) | tup (ds : List D) | rol (ds : List D) | ref (n : Nat) | adr (a : Addr)
inductive Cell where
  | lst (ds : List D)
  | dct (kvs : List (Key × D))
  | ins (c : Str) (fs : List (Str × D))
abbrev Store := List Cell
abbrev DEnv := List (Option D)
abbrev PQ := D → Store → Prop
abbrev PX := Str → DEnv → Store → Prop
abbrev W := DEnv → Store → PQ → PX → Prop
structure DEnds where
  nx : DEnv → Store → Prop
  rt : PQ
abbrev WS := DEnv → Store → DEnds → PX → Prop

/-! ### values -/
def RolAt (K : PySem.W.Frag) (H : Hp) (a : Addr) (vs : List V) : Prop := (∃ o, H a = some (.frz o (.lst vs))) ∨ (SqL K H a vs ∧ ∀ H', SqL K H' a vs)
mutual
def RD (K : PySem.W.Frag) (φ : List Addr) (H : Hp) : D → V → Prop
  | .non, v => v = .non
  | .bl b, v => v = .bl b
  | .int i, v => v = .int i
  | .str x, v => v = .str x
  | .tup ds, v => ∃ a vs, v = .ref a ∧ H a = some (.tup vs) ∧ RDs K φ H ds vs
  | .rol ds, v => ∃ a vs, v = .ref a ∧ RolAt K H a vs ∧ RDs K φ H ds vs
  | .ref n, v => ∃ a, φ[n]? = some a ∧ v = .ref a
  | .adr a, v => v = .ref a
def RDs (K : PySem.W.Frag) (φ : List Addr) (H : Hp) : List D → List V → Prop
  | [], vs => vs = []
  | d :: ds, vs => ∃ v r, vs = v :: r ∧ RD K φ H d v ∧ RDs K φ H ds r
end
theorem RDs.length {K : PySem.W.Frag} {φ : List Addr} {H : Hp} : ∀ {ds : List D} {vs : List V}, RDs K φ H ds vs → ds.length = vs.length
  | [], vs, h => by have : vs = [] := by simpa [RDs] using h
                    subst this; rfl
  | d :: ds, vs, h => by
    obtain ⟨v, r, rfl, _, h⟩ := (by simpa only [RDs] using h : ∃ v r, vs = v :: r ∧ RD K φ H d v ∧ RDs K φ H ds r)
    simp [RDs.length h]
theorem RDs.cons {K : PySem.W.Frag} {φ : List Addr} {H : Hp} {d : D} {ds : List D} {v : V} {vs : List V} (h : RD K φ H d v) (t : RDs K φ H ds vs) : RDs K φ H (d :: ds) (v :: vs) := by
  simp only [RDs]; exact ⟨v, vs, rfl, h, t⟩
theorem RDs.inv {K : PySem.W.Frag} {φ : List Addr} {H : Hp} {d : D} {ds : List D} {vs : List V} (h : RDs K φ H (d :: ds) vs) : ∃ v r, vs = v :: r ∧ RD K φ H d v ∧ RDs K φ H ds r := by
  simpa only [RDs] using h
theorem RDs.nil {K : PySem.W.Frag} {φ : List Addr} {H : Hp} : RDs K φ H [] [] := by simp only [RDs]
theorem RDs.get {K : PySem.W.Frag} {φ : List Addr} {H : Hp} : ∀ {ds : List D} {vs : List V} {i : Nat} {d : D}, RDs K φ H ds vs → ds[i]? = some d → ∃ v, vs[i]? = some v ∧ RD K φ H d v
  | [], _, _, _, _, e => by simp at e
  | d :: ds, vs, i, x, h, e => by
    obtain ⟨v, r, rfl, h1, h2⟩ := h.inv
    cases i with
    | zero => simp at e; subst e; exact ⟨v, rfl, h1⟩
    | succ i => simpa using RDs.get h2 (by simpa using e)
theorem RDs.getV {K : PySem.W.Frag} {φ : List Addr} {H : Hp} : ∀ {ds : List D} {vs : List V} {i : Nat} {v : V}, RDs K φ H ds vs → vs[i]? = some v → ∃ d, ds[i]? = some d ∧ RD K φ H d v
  | [], vs, i, v, h, e => by have : vs = [] := by simpa [RDs] using h
                             subst this; simp at e
  | d :: ds, vs, i, x, h, e => by
    obtain ⟨v, r, rfl, h1, h2⟩ := h.inv
    cases i with
    | zero => simp at e; subst e; exact ⟨d, rfl, h1⟩
    | succ i => simpa using RDs.getV h2 (by simpa using e)
theorem RDs.append {K : PySem.W.Frag} {φ : List Addr} {H : Hp} : ∀ {xs ys : List D} {us vs : List V}, RDs K φ H xs us → RDs K φ H ys vs → RDs K φ H (xs ++ ys) (us ++ vs)
  | [], _, us, _, h, t => by have : us = [] := by simpa [RDs] using h
                             subst this; exact t
  | d :: ds, _, us, _, h, t => by
    obtain ⟨v, r, rfl, h1, h2⟩ := h.inv
    exact RDs.cons h1 (RDs.append h2 t)
theorem RDs.take {K : PySem.W.Frag} {φ : List Addr} {H : Hp} : ∀ {xs : List D} {us : List V} (n : Nat), RDs K φ H xs us → RDs K φ H (xs.take n) (us.take n)
  | _, _, 0, _ => by simpa using RDs.nil
  | [], us, n + 1, h => by have : us = [] := by simpa [RDs] using h
                           subst this; exact RDs.nil
  | d :: ds, us, n + 1, h => by
    obtain ⟨v, r, rfl, h1, h2⟩ := h.inv
    exact RDs.cons h1 (RDs.take n h2)
theorem RDs.drop {K : PySem.W.Frag} {φ : List Addr} {H : Hp} : ∀ {xs : List D} {us : List V} (n : Nat), RDs K φ H xs us → RDs K φ H (xs.drop n) (us.drop n)
  | _, _, 0, h => by simpa using h
  | [], us, n + 1, h => by have : us = [] := by simpa [RDs] using h
                           subst this; exact RDs.nil
  | d :: ds, us, n + 1, h => by
    obtain ⟨v, r, rfl, h1, h2⟩ := h.inv
    exact RDs.drop n h2
theorem RDs.set {K : PySem.W.Frag} {φ : List Addr} {H : Hp} {d : D} {v : V} (q : RD K φ H d v) : ∀ {xs : List D} {us : List V} (n : Nat), RDs K φ H xs us → RDs K φ H (xs.set n d) (us.set n v)
  | [], us, n, h => by have : us = [] := by simpa [RDs] using h
                       subst this; simpa using RDs.nil
  | x :: ds, us, 0, h => by
    obtain ⟨v, r, rfl, h1, h2⟩ := h.inv
    exact RDs.cons q h2
  | x :: ds, us, n + 1, h => by
    obtain ⟨v, r, rfl, h1, h2⟩ := h.inv
    exact RDs.cons h1 (RDs.set q n h2)
theorem RDs.reverse {K : PySem.W.Frag} {φ : List Addr} {H : Hp} : ∀ {xs : List D} {us : List V}, RDs K φ H xs us → RDs K φ H xs.reverse us.reverse
  | [], us, h => by have : us = [] := by simpa [RDs] using h
                    subst this; exact RDs.nil
  | x :: ds, us, h => by
    obtain ⟨v, r, rfl, h1, h2⟩ := h.inv
    rw [List.reverse_cons, List.reverse_cons]
    exact (RDs.reverse h2).append (RDs.cons h1 RDs.nil)
theorem RDs.eraseIdx {K : PySem.W.Frag} {φ : List Addr} {H : Hp} {xs : List D} {us : List V} (h : RDs K φ H xs us) (n : Nat) : RDs K φ H (xs.eraseIdx n) (us.eraseIdx n) := by
  rw [List.eraseIdx_eq_take_drop_succ, List.eraseIdx_eq_take_drop_succ]
  exact (h.take n).append (h.drop (n + 1))
theorem RDs.dropLast {K : PySem.W.Frag} {φ : List Addr} {H : Hp} {xs : List D} {us : List V} (h : RDs K φ H xs us) : RDs K φ H xs.dropLast us.dropLast := by
  rw [List.dropLast_eq_take, List.dropLast_eq_take, h.length]
  exact h.take _

/-! ### what stays -/
structure Ext (φ : List Addr) (H : Hp) (φ' : List Addr) (H' : Hp) : Prop where
  pre : ∃ t, φ' = φ ++ t
  keep : ∀ b o, H b = some o → b ∉ φ → H' b = some o
  im : ∀ b o, H b = some o → ¬ Mut (some o) → H' b = some o
  new : ∀ b, b ∈ φ' → b ∈ φ ∨ H b = none
/-- what values lean on -/
structure Le (φ : List Addr) (H : Hp) (φ' : List Addr) (H' : Hp) : Prop where
  get : ∀ {n : Nat} {a : Addr}, φ[n]? = some a → φ'[n]? = some a
  im : ∀ b o, H b = some o → ¬ Mut (some o) → H' b = some o
theorem Ext.refl {φ : List Addr} {H : Hp} : Ext φ H φ H := ⟨⟨[], by simp⟩, fun _ _ e _ => e, fun _ _ e _ => e, fun _ h => .inl h⟩
theorem Ext.get {φ φ' : List Addr} {H H' : Hp} (x : Ext φ H φ' H') {n : Nat} {a : Addr} (h : φ[n]? = some a) : φ'[n]? = some a := by
  obtain ⟨t, rfl⟩ := x.pre
  rw [List.getElem?_append_left (List.getElem?_eq_some_iff.mp h).1]; exact h
theorem Ext.mem {φ φ' : List Addr} {H H' : Hp} (x : Ext φ H φ' H') {a : Addr} (h : a ∈ φ) : a ∈ φ' := by
  obtain ⟨t, rfl⟩ := x.pre
  exact List.mem_append_left _ h
theorem Ext.trans {φ φ1 φ2 : List Addr} {H H1 H2 : Hp} (x : Ext φ H φ1 H1) (y : Ext φ1 H1 φ2 H2) : Ext φ H φ2 H2 := by
  refine ⟨?_, fun b o e hb => ?_, fun b o e m => y.im b o (x.im b o e m) m, fun b hb => ?_⟩
  · obtain ⟨t, rfl⟩ := x.pre
    obtain ⟨u, rfl⟩ := y.pre
    exact ⟨t ++ u, by simp⟩
  · refine y.keep b o (x.keep b o e hb) fun hm => ?_
    rcases x.new b hm with h | h
    · exact hb h
    · rw [e] at h; cases h
  · rcases y.new b hb with h | h
    · exact x.new b h
    · by_cases hm : b ∈ φ
      · exact .inl hm
      · refine .inr ?_
        cases q : H b with
        | none => rfl
        | some o => rw [x.keep b o q hm] at h; cases h
theorem Ext.le {φ φ' : List Addr} {H H' : Hp} (x : Ext φ H φ' H') : Le φ H φ' H' := ⟨x.get, x.im⟩
theorem RolAt.mono {K : PySem.W.Frag} {φ φ' : List Addr} {H H' : Hp} (x : Le φ H φ' H') {a : Addr} {vs : List V} (h : RolAt K H a vs) : RolAt K H' a vs := by
  rcases h with ⟨o, h⟩ | ⟨_, h⟩
  · exact .inl ⟨o, x.im _ _ h fun z => z⟩
  · exact .inr ⟨h H', h⟩
theorem RolAt.seq {K : PySem.W.Frag} {H : Hp} {a : Addr} {vs : List V} (h : RolAt K H a vs) : SqL K H a vs := by
  rcases h with ⟨o, h⟩ | ⟨h, _⟩
  · exact .inl (.inr ⟨o, h⟩)
  · exact h
mutual
theorem RD.le {K : PySem.W.Frag} {φ φ' : List Addr} {H H' : Hp} (x : Le φ H φ' H') : ∀ {d : D} {v : V}, RD K φ H d v → RD K φ' H' d v
  | .non, v, h => by simpa only [RD] using h
  | .bl b, v, h => by simpa only [RD] using h
  | .int i, v, h => by simpa only [RD] using h
  | .str s, v, h => by simpa only [RD] using h
  | .adr s, v, h => by simpa only [RD] using h
  | .tup ds, v, h => by
    simp only [RD] at h ⊢
    obtain ⟨a, vs, e, h1, h2⟩ := h
    exact ⟨a, vs, e, x.im _ _ h1 fun z => z, RDs.le x h2⟩
  | .rol ds, v, h => by
    simp only [RD] at h ⊢
    obtain ⟨a, vs, e, h1, h2⟩ := h
    exact ⟨a, vs, e, h1.mono x, RDs.le x h2⟩
  | .ref n, v, h => by
    simp only [RD] at h ⊢
    obtain ⟨a, h1, h2⟩ := h
    exact ⟨a, x.get h1, h2⟩
theorem RDs.le {K : PySem.W.Frag} {φ φ' : List Addr} {H H' : Hp} (x : Le φ H φ' H') : ∀ {ds : List D} {vs : List V}, RDs K φ H ds vs → RDs K φ' H' ds vs
  | [], vs, h => by simpa only [RDs] using h
  | d :: ds, vs, h => by
    simp only [RDs] at h ⊢
    obtain ⟨v, r, e, h1, h2⟩ := h
    exact ⟨v, r, e, RD.le x h1, RDs.le x h2⟩
end

theorem RD.mono {K : PySem.W.Frag} {φ φ' : List Addr} {H H' : Hp} (x : Ext φ H φ' H') {d : D} {v : V} (h : RD K φ H d v) : RD K φ' H' d v := h.le x.le
theorem RDs.mono {K : PySem.W.Frag} {φ φ' : List Addr} {H H' : Hp} (x : Ext φ H φ' H') {ds : List D} {vs : List V} (h : RDs K φ H ds vs) : RDs K φ' H' ds vs := h.le x.le

/-! ### the store, the slots -/
def RKs (K : PySem.W.Frag) (φ : List Addr) (H : Hp) {κ : Type} (ks : List (κ × D)) (vs : List (κ × V)) : Prop := ks.map (·.1) = vs.map (·.1) ∧ RDs K φ H (ks.map (·.2)) (vs.map (·.2))
def RC (K : PySem.W.Frag) (mg : Str → Option Value) (φ : List Addr) (H : Hp) (a : Addr) : Cell → Prop
  | .lst ds => ∃ vs, H a = some (.lst vs) ∧ RDs K φ H ds vs ∧ ds.length ≤ sizeLine
  | .dct ks => ∃ vs, H a = some (.dK vs) ∧ RKs K φ H ks vs ∧ ks.length ≤ sizeLine
  | .ins c fs => ∃ C dx vs, mg c = some (.ref C) ∧ H a = some (.ins C dx vs) ∧ RKs K φ H fs vs
structure RS (K : PySem.W.Frag) (mg : Str → Option Value) (φ : List Addr) (S : Store) (H : Hp) : Prop where
  len : φ.length = S.length
  nd : φ.Nodup
  cell : ∀ (n : Nat) (c : Cell) (a : Addr), S[n]? = some c → φ[n]? = some a → RC K mg φ H a c
structure RE (K : PySem.W.Frag) (φ : List Addr) (H : Hp) (ρ : DEnv) (σ : L2.St) : Prop where
  len : ρ.length = σ.length
  get : ∀ (i : Nat) (d : D), ρ[i]? = some (some d) → ∃ v, σ[i]? = some (some v) ∧ RD K φ H d v
section
variable {K : PySem.W.Frag} {mg : Str → Option Value} {φ φ' : List Addr} {S : Store} {H H' : Hp} {ρ : DEnv} {σ : L2.St}
theorem RKs.mono {κ : Type} {ks : List (κ × D)} {vs : List (κ × V)} (x : Ext φ H φ' H') (h : RKs K φ H ks vs) : RKs K φ' H' ks vs := ⟨h.1, h.2.mono x⟩
theorem RE.mono (x : Ext φ H φ' H') (h : RE K φ H ρ σ) : RE K φ' H' ρ σ := ⟨h.len, fun i d e => let ⟨v, h1, h2⟩ := h.get i d e; ⟨v, h1, h2.mono x⟩⟩
theorem RE.set (h : RE K φ H ρ σ) {d : D} {v : V} (r : RD K φ H d v) (i : Nat) : RE K φ H (ρ.set i (some d)) (σ.set i (some v)) := by
  refine ⟨by simp [h.len], fun j e q => ?_⟩
  by_cases hj : i = j
  · subst hj
    have hi : i < ρ.length := by
      have := (List.getElem?_eq_some_iff.mp q).1
      simpa using this
    rw [List.getElem?_set_self hi] at q
    cases q
    exact ⟨v, List.getElem?_set_self (by rw [← h.len]; exact hi), r⟩
  · rw [List.getElem?_set_ne hj] at q
    rw [List.getElem?_set_ne hj]
    exact h.get j e q
theorem RE.none (h : RE K φ H ρ σ) (i : Nat) : RE K φ H (ρ.set i Option.none) (σ.set i Option.none) := by
  refine ⟨by simp [h.len], fun j e q => ?_⟩
  by_cases hj : i = j
  · subst hj
    by_cases hi : i < ρ.length
    · rw [List.getElem?_set_self hi] at q; cases q
    · rw [List.getElem?_eq_none (by simpa using hi)] at q; cases q
  · rw [List.getElem?_set_ne hj] at q
    rw [List.getElem?_set_ne hj]
    exact h.get j e q
theorem RC.mut {a : Addr} {c : Cell} (h : RC K mg φ H a c) : Mut (H a) := by
  cases c with
  | lst ds => obtain ⟨vs, e, _⟩ := h; rw [e]; trivial
  | dct ks => obtain ⟨vs, e, _⟩ := h; rw [e]; trivial
  | ins c fs => obtain ⟨C, dx, vs, _, e, _⟩ := h; rw [e]; trivial
theorem RS.mut (h : RS K mg φ S H) {a : Addr} (ha : a ∈ φ) : Mut (H a) := by
  obtain ⟨n, hn, e⟩ := List.mem_iff_getElem.mp ha
  have e1 : φ[n]? = some a := by rw [List.getElem?_eq_getElem hn, e]
  have hs : n < S.length := by rw [← h.len]; exact hn
  exact (h.cell n _ a (List.getElem?_eq_getElem hs) e1).mut
theorem RS.out (h : RS K mg φ S H) {p : Addr} (hp : H p = none) : p ∉ φ := fun hm => by
  have := h.mut hm
  rw [hp] at this; exact this
/-- the same store and places, the cells' objects as they were -/
theorem RC.mono {a : Addr} {c : Cell} (x : Ext φ H φ' H') (e : H' a = H a) (h : RC K mg φ H a c) : RC K mg φ' H' a c := by
  cases c with
  | lst ds => obtain ⟨vs, q, r, z⟩ := h; exact ⟨vs, by rw [e]; exact q, r.mono x, z⟩
  | dct ks => obtain ⟨vs, q, r, z⟩ := h; exact ⟨vs, by rw [e]; exact q, r.mono x, z⟩
  | ins c fs => obtain ⟨C, dx, vs, m, q, r⟩ := h; exact ⟨C, dx, vs, m, by rw [e]; exact q, r.mono x⟩
theorem RC.le {a : Addr} {c : Cell} (x : Le φ H φ' H') (e : H' a = H a) (h : RC K mg φ H a c) : RC K mg φ' H' a c := by
  cases c with
  | lst ds => obtain ⟨vs, q, r, z⟩ := h; exact ⟨vs, by rw [e]; exact q, r.le x, z⟩
  | dct ks => obtain ⟨vs, q, r, z⟩ := h; exact ⟨vs, by rw [e]; exact q, ⟨r.1, r.2.le x⟩, z⟩
  | ins c fs => obtain ⟨C, dx, vs, m, q, r⟩ := h; exact ⟨C, dx, vs, m, by rw [e]; exact q, ⟨r.1, r.2.le x⟩⟩
/-- a list that is not of the store (it is still being made) grows -/
theorem Le.grow {DD : Addr} {us vs : List V} (hD : H DD = some (.lst us)) : Le φ H φ (upd H DD (.lst vs)) :=
  ⟨id, fun b o e m => by rw [upd_ne fun (z : b = DD) => m (by rw [← e, z, hD]; trivial)]; exact e⟩
theorem RS.grow (h : RS K mg φ S H) {DD : Addr} {us vs : List V} (hD : H DD = some (.lst us)) (nd : DD ∉ φ) : RS K mg φ S (upd H DD (.lst vs)) :=
  ⟨h.len, h.nd, fun n c a e1 e2 => (h.cell n c a e1 e2).le (Le.grow hD) (upd_ne fun e => nd (e ▸ List.mem_of_getElem? e2))⟩
theorem Ext.grow {H1 : Hp} (x : Ext φ H1 φ' H) {DD : Addr} {vs : List V} (hn : H1 DD = none) (hm : H DD = none ∨ ∃ us, H DD = some (.lst us)) : Ext φ H1 φ' (upd H DD (.lst vs)) :=
  ⟨x.pre, fun b o e hb => by rw [upd_ne (ne_of_none e hn)]; exact x.keep b o e hb, fun b o e m => by rw [upd_ne (ne_of_none e hn)]; exact x.im b o e m, x.new⟩
/-- it comes to the store -/
theorem RS.adopt (h : RS K mg φ S H) {DD : Addr} {c : Cell} (nd : DD ∉ φ) (hc : RC K mg φ H DD c) : RS K mg (φ ++ [DD]) (S ++ [c]) H := by
  have x : Le φ H (φ ++ [DD]) H := ⟨fun e => by rw [List.getElem?_append_left (List.getElem?_eq_some_iff.mp e).1]; exact e, fun _ _ e _ => e⟩
  refine ⟨by simp [h.len], ?_, fun n d a e1 e2 => ?_⟩
  · rw [List.nodup_append]
    exact ⟨h.nd, by simp, fun a ha b hb e => by
      have : b = DD := by simpa using hb
      subst this; subst e; exact nd ha⟩
  · by_cases hn : n < S.length
    · rw [List.getElem?_append_left hn] at e1
      rw [List.getElem?_append_left (by rw [h.len]; exact hn)] at e2
      exact (h.cell n d a e1 e2).le x rfl
    · have hn2 : n = S.length := by
        have := (List.getElem?_eq_some_iff.mp e1).1
        simp at this; omega
      subst hn2
      rw [List.getElem?_append_right (Nat.le_refl _)] at e1
      rw [← h.len, List.getElem?_append_right (Nat.le_refl _)] at e2
      simp at e1 e2
      subst e1; subst e2; exact hc.le x rfl
theorem Ext.adopt {H1 : Hp} (x : Ext φ H1 φ' H) {DD : Addr} (hn : H1 DD = none) : Ext φ H1 (φ' ++ [DD]) H := by
  refine ⟨?_, x.keep, x.im, fun b hb => ?_⟩
  · obtain ⟨t, rfl⟩ := x.pre
    exact ⟨t ++ [DD], by simp⟩
  · rcases List.mem_append.mp hb with q | q
    · exact x.new b q
    · have : b = DD := by simpa using q
      subst this; exact .inr hn
/-- an object that the store doesn't know is laid (a tuple, an iterator's list) -/
theorem Ext.laid (h : RS K mg φ S H) {p : Addr} {o : HO} (hp : H p = none) : Ext φ H φ (upd H p o) := by
  refine ⟨⟨[], by simp⟩, fun b u e _ => ?_, fun b u e _ => ?_, fun b hb => .inl hb⟩ <;>
  · rw [upd_ne (ne_of_none e hp)]; exact e
theorem RS.laid (h : RS K mg φ S H) {p : Addr} {o : HO} (hp : H p = none) : RS K mg φ S (upd H p o) := by
  refine ⟨h.len, h.nd, fun n c a e1 e2 => ?_⟩
  have ha : a ∈ φ := List.mem_of_getElem? e2
  exact (h.cell n c a e1 e2).mono (Ext.laid h hp) (upd_ne fun e => h.out hp (e ▸ ha))
/-- a new cell -/
theorem Ext.alloc (h : RS K mg φ S H) {p : Addr} {o : HO} (hp : H p = none) : Ext φ H (φ ++ [p]) (upd H p o) := by
  refine ⟨⟨[p], rfl⟩, fun b u e _ => ?_, fun b u e _ => ?_, fun b hb => ?_⟩
  · rw [upd_ne (ne_of_none e hp)]; exact e
  · rw [upd_ne (ne_of_none e hp)]; exact e
  · rcases List.mem_append.mp hb with q | q
    · exact .inl q
    · have : b = p := by simpa using q
      subst this; exact .inr hp
theorem RS.alloc (h : RS K mg φ S H) {p : Addr} {o : HO} {c : Cell} (hp : H p = none) (hc : RC K mg (φ ++ [p]) (upd H p o) p c) : RS K mg (φ ++ [p]) (S ++ [c]) (upd H p o) := by
  refine ⟨by simp [h.len], ?_, fun n d a e1 e2 => ?_⟩
  · rw [List.nodup_append]
    exact ⟨h.nd, by simp, fun a ha b hb e => by
      have : b = p := by simpa using hb
      subst this; subst e; exact h.out hp ha⟩
  · by_cases hn : n < S.length
    · rw [List.getElem?_append_left hn] at e1
      rw [List.getElem?_append_left (by rw [h.len]; exact hn)] at e2
      have ha : a ∈ φ := List.mem_of_getElem? e2
      exact (h.cell n d a e1 e2).mono (Ext.alloc h hp) (upd_ne fun e => h.out hp (e ▸ ha))
    · have hn2 : n = S.length := by
        have := (List.getElem?_eq_some_iff.mp e1).1
        simp at this; omega
      subst hn2
      rw [List.getElem?_append_right (Nat.le_refl _)] at e1
      rw [← h.len, List.getElem?_append_right (Nat.le_refl _)] at e2
      simp at e1 e2
      subst e1; subst e2; exact hc
theorem alloc_ref (h : RS K mg φ S H) (p : Addr) : RD K (φ ++ [p]) H' (.ref S.length) (.ref p) := by
  simp only [RD]
  exact ⟨p, by rw [← h.len, List.getElem?_append_right (Nat.le_refl _)]; simp, rfl⟩
/-- a cell is written -/
theorem Ext.write (h : RS K mg φ S H) {a : Addr} {o : HO} (ha : a ∈ φ) : Ext φ H φ (upd H a o) := by
  refine ⟨⟨[], by simp⟩, fun b u e hb => ?_, fun b u e m => ?_, fun b hb => .inl hb⟩
  · rw [upd_ne fun (z : b = a) => hb (z ▸ ha)]; exact e
  · rw [upd_ne fun (z : b = a) => m (by rw [← e, z]; exact h.mut ha)]; exact e
theorem RS.write (h : RS K mg φ S H) {n : Nat} {a : Addr} {o : HO} {c : Cell} (hn : φ[n]? = some a) (hc : RC K mg φ (upd H a o) a c) : RS K mg φ (S.set n c) (upd H a o) := by
  have ha : a ∈ φ := List.mem_of_getElem? hn
  refine ⟨by simp [h.len], h.nd, fun m d b e1 e2 => ?_⟩
  by_cases hm : n = m
  · subst hm
    rw [hn] at e2; cases e2
    have : n < S.length := by rw [← h.len]; exact (List.getElem?_eq_some_iff.mp hn).1
    rw [List.getElem?_set_self this] at e1
    cases e1; exact hc
  · rw [List.getElem?_set_ne hm] at e1
    have hb : b ≠ a := fun e => hm (by
      subst e
      obtain ⟨h1, q1⟩ := List.getElem?_eq_some_iff.mp hn
      obtain ⟨h2, q2⟩ := List.getElem?_eq_some_iff.mp e2
      exact (List.getElem_inj h.nd).mp (q1.trans q2.symm))
    exact (h.cell m d b e1 e2).mono (Ext.write h ha) (upd_ne hb)
theorem RS.ref (h : RS K mg φ S H) {n : Nat} {c : Cell} (hn : S[n]? = some c) : ∃ a, φ[n]? = some a ∧ RC K mg φ H a c := by
  have h1 : n < φ.length := by rw [h.len]; exact (List.getElem?_eq_some_iff.mp hn).1
  exact ⟨φ[n], List.getElem?_eq_getElem h1, h.cell n c _ hn (List.getElem?_eq_getElem h1)⟩
/-- a list's place -/
theorem RS.lst (h : RS K mg φ S H) {n : Nat} {ds : List D} {v : V} (hn : S[n]? = some (.lst ds)) (r : RD K φ H (.ref n) v) : ∃ a vs, v = .ref a ∧ φ[n]? = some a ∧ H a = some (.lst vs) ∧ RDs K φ H ds vs ∧ ds.length ≤ sizeLine := by
  simp only [RD] at r
  obtain ⟨a, ha, rfl⟩ := r
  obtain ⟨vs, q, r, z⟩ := h.cell n _ a hn ha
  exact ⟨a, vs, rfl, ha, q, r, z⟩
end

/-! ### readings -/
def tmA (K : PySem.W.Frag) (mg : Str → Option Value) (WW : WX) (φ : List Addr) (ρ : DEnv) (S : Store) (w : W) (σ : L2.St) (H : Hp) (Q : VK) : Prop :=
  RS K mg φ S H ∧ RE K φ H ρ σ ∧ ∃ (Q' : PQ) (E' : PX), w ρ S Q' E' ∧
    (∀ d S', Q' d S' → ∀ v φ' H', Ext φ H φ' H' → RS K mg φ' S' H' → RD K φ' H' d v → Q v H') ∧
    (∀ c ρ' S', E' c ρ' S' → ∀ u φ' H' σ', Ext φ H φ' H' → RS K mg φ' S' H' → RE K φ' H' ρ' σ' → mg c = some u → WW u none σ' H')
def tm (K : PySem.W.Frag) (mg : Str → Option Value) (WW : WX) (w : W) : TE := fun σ H Q => ∃ φ ρ S, tmA K mg WW φ ρ S w σ H Q
def bindW (a : W) (k : D → W) : W := fun ρ S Q E => a ρ S (fun d S1 => k d ρ S1 Q E) E
def ret (d : D) : W := fun _ S Q _ => Q d S
theorem PE.conv {X : Cx} {e : Expr} {t u : TE} (h : PE X e t) (q : ∀ σ H Q, u σ H Q → t σ H Q) : PE X e u := ⟨fun pins s σ H Q I hw => h.run pins s σ H Q I (q σ H Q hw)⟩
theorem PT.conv {X : Cx} {e : Expr} {t u : TT} (h : PT X e t) (q : ∀ σ H Q, u σ H Q → t σ H Q) : PT X e u := ⟨fun pins s σ H Q I hw => h.run pins s σ H Q I (q σ H Q hw)⟩
theorem PS.conv {X : Cx} {e : Stmt} {t u : TS} (h : PS X e t) (q : ∀ D σ H, u D σ H → t D σ H) : PS X e u := ⟨fun pins s σ H Q I hw => h.run pins s σ H Q I (q Q σ H hw)⟩
theorem PSs.conv {X : Cx} {e : List Stmt} {t u : TS} (h : PSs X e t) (q : ∀ D σ H, u D σ H → t D σ H) : PSs X e u := ⟨fun pins s σ H Q I hw => h.run pins s σ H Q I (q Q σ H hw)⟩
theorem PA.conv {X : Cx} {e : List Expr} {t u : TA} (h : PA X e t) (q : ∀ σ H Q, u σ H Q → t σ H Q) : PA X e u := ⟨fun pos pins s σ H Q I hw => h.run pos pins s σ H Q I (q σ H Q hw)⟩
section
variable {K : PySem.W.Frag} {mg : Str → Option Value} {WW : WX} {φ : List Addr} {ρ : DEnv} {S : Store} {σ : L2.St} {H : Hp} {Q : VK}
theorem tmA.bind {a : W} {k : D → W} (h : tmA K mg WW φ ρ S (bindW a k) σ H Q) :
    tmA K mg WW φ ρ S a σ H (fun v H1 => ∃ d φ1 S1, Ext φ H φ1 H1 ∧ RD K φ1 H1 d v ∧ tmA K mg WW φ1 ρ S1 (k d) σ H1 Q) := by
  obtain ⟨rs, re, Q', E', hw, hn, hx⟩ := h
  refine ⟨rs, re, _, E', hw, fun d S1 h1 v φ1 H1 x rs1 rd => ?_, hx⟩
  exact ⟨d, φ1, S1, x, rd, rs1, re.mono x, Q', E', h1, fun d2 S2 h2 v2 φ2 H2 y rs2 rd2 => hn d2 S2 h2 v2 φ2 H2 (x.trans y) rs2 rd2,
    fun c ρ2 S2 h2 u φ2 H2 σ2 y rs2 re2 m => hx c ρ2 S2 h2 u φ2 H2 σ2 (x.trans y) rs2 re2 m⟩
theorem tmA.ret {d : D} {v : V} (h : tmA K mg WW φ ρ S (ret d) σ H Q) (r : RD K φ H d v) : Q v H := by
  obtain ⟨rs, re, Q', E', hw, hn, hx⟩ := h
  exact hn d S hw v φ H Ext.refl rs r
theorem tmA.run {w : W} {t : TE} (h : ∀ σ H Q, tm K mg WW w σ H Q → t σ H Q) (q : tmA K mg WW φ ρ S w σ H Q) : t σ H Q := h σ H Q ⟨φ, ρ, S, q⟩
end

/-! ### data for == -/
mutual
inductive DPy (S : Store) : D → PyData → Prop
  | non : DPy S .non .none
  | bl (b : Bool) : DPy S (.bl b) (.bool b)
  | int (i : Int) : DPy S (.int i) (.int i)
  | str (x : Str) : DPy S (.str x) (.str x)
  | tup {ds : List D} {ps : List PyData} : DPys S ds ps → DPy S (.tup ds) (.tuple ps)
  | rol {ds : List D} {ps : List PyData} : DPys S ds ps → DPy S (.rol ds) (.list ps)
  | lst {n : Nat} {ds : List D} {ps : List PyData} : S[n]? = some (.lst ds) → DPys S ds ps → DPy S (.ref n) (.list ps)
inductive DPys (S : Store) : List D → List PyData → Prop
  | nil : DPys S [] []
  | cons {d : D} {ds : List D} {p : PyData} {ps : List PyData} : DPy S d p → DPys S ds ps → DPys S (d :: ds) (p :: ps)
end
section
variable {K : PySem.W.Frag} {mg : Str → Option Value} {φ : List Addr} {S : Store} {H : Hp}
mutual
theorem DPy.dp (rs : RS K mg φ S H) : ∀ {d : D} {p : PyData} {v : V}, DPy S d p → RD K φ H d v → Dp K H v p
  | _, _, v, .non, r => by
    have : v = .non := by simpa only [RD] using r
    subst this; exact .non
  | _, _, v, .bl b, r => by
    have : v = .bl b := by simpa only [RD] using r
    subst this; exact .bl b
  | _, _, v, .int i, r => by
    have : v = .int i := by simpa only [RD] using r
    subst this; exact .int i
  | _, _, v, .str i, r => by
    have : v = .str i := by simpa only [RD] using r
    subst this; exact .str i
  | _, _, v, .tup h, r => by
    simp only [RD] at r
    obtain ⟨a, vs, rfl, ha, r⟩ := r
    exact .tup (SqT.of ha) (DPys.dp rs h r)
  | _, _, v, .rol h, r => by
    simp only [RD] at r
    obtain ⟨a, vs, rfl, ha, r⟩ := r
    exact .lst ha.seq (DPys.dp rs h r)
  | _, _, v, .lst hn h, r => by
    obtain ⟨a, vs, rfl, ha, hH, r, _⟩ := rs.lst hn r
    exact .lst (SqL.of hH) (DPys.dp rs h r)
theorem DPys.dp (rs : RS K mg φ S H) : ∀ {ds : List D} {ps : List PyData} {vs : List V}, DPys S ds ps → RDs K φ H ds vs → DpAll K H vs ps
  | _, _, vs, .nil, r => by
    have : vs = [] := by simpa [RDs] using r
    subst this; exact .nil
  | _, _, vs, .cons h t, r => by
    obtain ⟨v, r', rfl, h1, h2⟩ := r.inv
    exact .cons (DPy.dp rs h h1) (DPys.dp rs t h2)
end
end

/-! ### readings by values -/
def fail : W := fun _ _ _ _ => False
def pAdd : D → D → W
  | .int i, .int j => ret (.int (i + j))
  | .str x, .str y => fun _ S Q _ => x.length + y.length ≤ sizeLine ∧ Q (.str (x ++ y)) S
  | .ref a, .ref b => fun _ S Q _ => ∃ xs ys, S[a]? = some (.lst xs) ∧ S[b]? = some (.lst ys) ∧ xs.length + ys.length ≤ sizeLine ∧ Q (.ref S.length) (S ++ [.lst (xs ++ ys)])
  | _, _ => fail
def pSub : D → D → W
  | .int i, .int j => ret (.int (i - j))
  | _, _ => fail
def pMul : D → D → W
  | .int i, .int j => fun _ S Q _ => (CMul i j ∨ CMulW i j) ∧ Q (.int (i * j)) S
  | _, _ => fail
def pDiv : D → D → W
  | .int i, .int j => fun _ S Q _ => (0 < j ∧ j.natAbs.log2 < 9000) ∧ Q (.int (i / j)) S
  | _, _ => fail
def pMod : D → D → W
  | .int i, .int j => fun _ S Q _ => 0 < j ∧ Q (.int (i % j)) S
  | _, _ => fail
def pPow : D → D → W
  | .int i, .int j => fun _ S Q _ => CPow i j ∧ Q (.int (i ^ j.toNat)) S
  | _, _ => fail
def pNeg : D → W
  | .int i => ret (.int (-i))
  | _ => fail
def pLt : D → D → W
  | .int i, .int j => ret (.bl (decide (i < j)))
  | _, _ => fail
def pLe : D → D → W
  | .int i, .int j => ret (.bl (decide (i ≤ j)))
  | _, _ => fail
def pGt : D → D → W
  | .int i, .int j => ret (.bl (decide (j < i)))
  | _, _ => fail
def pGe : D → D → W
  | .int i, .int j => ret (.bl (decide (j ≤ i)))
  | _, _ => fail
def pEqG (d e : D) : W := fun _ S Q _ => ∃ p q, DPy S d p ∧ DPy S e q ∧ SeqAt.shaped p = true ∧ SeqAt.shaped q = true ∧ Q (.bl (PyData.eqv p q)) S
def pNeG (d e : D) : W := fun _ S Q _ => ∃ p q, DPy S d p ∧ DPy S e q ∧ SeqAt.shaped p = true ∧ SeqAt.shaped q = true ∧ Q (.bl (!PyData.eqv p q)) S
def pEq : D → D → W
  | .int i, .int j => ret (.bl (decide (i = j)))
  | .str i, .str j => ret (.bl (decide (i = j)))
  | d, e => pEqG d e
def pNe : D → D → W
  | .int i, .int j => ret (.bl (!decide (i = j)))
  | .str i, .str j => ret (.bl (!decide (i = j)))
  | d, e => pNeG d e
def isNon : D → Bool
  | .non => true
  | _ => false
def pIsN (d : D) : W := ret (.bl (isNon d))
def pNotN (d : D) : W := ret (.bl (!isNon d))
def pIsB : D → D → W
  | .bl a, .bl b => ret (.bl (decide (a = b)))
  | _, _ => fail
def pNotB : D → D → W
  | .bl a, .bl b => ret (.bl (!decide (a = b)))
  | _, _ => fail
def pIx : D → D → W
  | .ref n, .int i => fun _ S Q _ => ∃ xs d, S[n]? = some (.lst xs) ∧ atI xs i = some d ∧ Q d S
  | .tup xs, .int i => fun _ S Q _ => ∃ d, atI xs i = some d ∧ Q d S
  | .rol xs, .int i => fun _ S Q _ => ∃ d, atI xs i = some d ∧ Q d S
  | .str z, .int i => fun _ S Q _ => ∃ c, z.length ≤ sizeLine ∧ atI z.cps.toList i = some c ∧ Q (.str ⟨#[c]⟩) S
  | _, _ => fail
def cutD (xs : List D) (lo hi : Option Int) : List D := (xs.drop (HT.sIx xs.length 0 lo)).take (HT.sIx xs.length xs.length hi - HT.sIx xs.length 0 lo)
def pSl : D → Option Int → Option Int → W
  | .ref n, lo, hi => fun _ S Q _ => ∃ xs, S[n]? = some (.lst xs) ∧ Q (.ref S.length) (S ++ [.lst (cutD xs lo hi)])
  | .rol xs, lo, hi => fun _ S Q _ => xs.length ≤ sizeLine ∧ Q (.ref S.length) (S ++ [.lst (cutD xs lo hi)])
  | .str z, lo, hi => fun _ S Q _ => z.length ≤ sizeLine ∧ Q (.str (cutS z lo hi)) S
  | .tup xs, lo, hi => fun _ S Q _ => ¬ (HT.sIx xs.length 0 lo = 0 ∧ HT.sIx xs.length xs.length hi = xs.length) ∧ Q (.tup (cutD xs lo hi)) S
  | _, _, _ => fail
def pRev : D → W
  | .ref n => fun _ S Q _ => ∃ xs, S[n]? = some (.lst xs) ∧ Q (.ref S.length) (S ++ [.lst xs.reverse])
  | _ => fail
def pLen : D → W
  | .ref n => fun _ S Q _ => ∃ xs, S[n]? = some (.lst xs) ∧ Q (.int xs.length) S
  | .tup xs => ret (.int xs.length)
  | .rol xs => ret (.int xs.length)
  | .str z => fun _ S Q _ => z.length ≤ sizeLine ∧ Q (.int z.length) S
  | _ => fail

def wVar (i : Nat) : W := fun ρ S Q _ => match ρ[i]? with
  | some (some d) => Q d S
  | _ => False
def wOp1 (p : D → W) (a : W) : W := bindW a p
def wOp (p : D → D → W) (a b : W) : W := bindW a fun x => bindW b fun y => p x y
/-- and, or, not of truth values -/
def pB (k : Bool → W) : D → W
  | .bl b => k b
  | _ => fail
def wAnd (a b : W) : W := bindW a (pB fun c => if c = true then b else ret (.bl false))
def wOr (a b : W) : W := bindW a (pB fun c => if c = true then ret (.bl true) else b)
def wNot (a : W) : W := bindW a (pB fun c => ret (.bl !c))
def wChain (p q : D → D → W) (a b c : W) : W := bindW a fun x => bindW b fun y => bindW (p x y) (pB fun k => if k = true then bindW c fun z => q y z else ret (.bl false))
def evWs : List W → DEnv → Store → (List D → Store → Prop) → PX → Prop
  | [], _, S, Q, _ => Q [] S
  | w :: ws, ρ, S, Q, E => w ρ S (fun d S1 => evWs ws ρ S1 (fun ds S2 => Q (d :: ds) S2) E) E
def wTup (ws : List W) : W := fun ρ S Q E => evWs ws ρ S (fun ds S1 => ds.length ≤ 1000 ∧ Q (.tup ds) S1) E
def wLst (ws : List W) : W := fun ρ S Q E => evWs ws ρ S (fun ds S1 => ds.length ≤ 1000 ∧ Q (.ref S1.length) (S1 ++ [.lst ds])) E
/-- parts of a slice -/
def wPart (o : Option W) (k : Option Int → W) : W := match o with
  | none => k none
  | some w => bindW w fun d => match d with
    | .int i => k (some i)
    | _ => fail
def wSl (a : W) (lo hi : Option W) : W := bindW a fun x => wPart lo fun l => wPart hi fun h => pSl x l h
/-- a def's promise over the store -/
abbrev SPf := List D → Store → PQ → (Str → Store → Prop) → Prop
def wCall (sp : SPf) (ws : List W) (dfl : List D) : W := fun ρ S Q E => evWs ws ρ S (fun ds S1 => sp (ds ++ dfl) S1 Q (fun c S2 => E c ρ S2)) E
/-- a built-in's call by values -/
abbrev BPf := List D → W
def wB (b : BPf) (ws : List W) : W := fun ρ S Q E => evWs ws ρ S (fun ds S1 => b ds ρ S1 Q E) E

/-! ### arguments -/
def tma (K : PySem.W.Frag) (mg : Str → Option Value) (WW : WX) (ws : List W) : TA := fun σ H Q => ∃ φ ρ S, RS K mg φ S H ∧ RE K φ H ρ σ ∧ ∃ (Q' : List D → Store → Prop) (E' : PX), evWs ws ρ S Q' E' ∧
    (∀ ds S', Q' ds S' → ∀ vs φ' H', Ext φ H φ' H' → RS K mg φ' S' H' → RDs K φ' H' ds vs → Q vs H') ∧
    (∀ c ρ' S', E' c ρ' S' → ∀ u φ' H' σ', Ext φ H φ' H' → RS K mg φ' S' H' → RE K φ' H' ρ' σ' → mg c = some u → WW u none σ' H')

section
variable {X : Cx} {WW : WX} {a b c e : Expr} {es : List Expr} {pos : Pos} {wa wb wc : W} {ws : List W}
theorem se_var (i : Nat) {x : Str} {pos : Pos} (hN : X.N[i]? = some x := by rfl) (hv : Vis X.env.scope x := by first | exact Or.inl rfl | exact Or.inr (Or.inl rfl) | exact Or.inr (Or.inr rfl)) (hd : (x == ("__debug__" : Str)) = false := by decide)
    (hcd : (x == ("__classdict__" : Str)) = false := by decide) : PE X (.Name x pos) (tm X.K X.mg WW (wVar i)) := by
  refine PE.conv (pv i hN hv hd hcd) fun σ H Q h => ?_
  obtain ⟨φ, ρ, S, rs, re, Q', E', hw, hn, hx⟩ := h
  unfold wVar at hw
  split at hw
  · rename_i d hd
    obtain ⟨v, e1, r⟩ := re.get i d hd
    exact ⟨v, e1, hn d S hw v φ H Ext.refl rs r⟩
  · exact hw.elim
theorem ret_c {d : D} {v : V} (r : ∀ K φ H, RD K φ H d v) (σ : L2.St) (H : Hp) (Q : VK) (h : tm X.K X.mg WW (ret d) σ H Q) : tC v σ H Q := by
  obtain ⟨φ, ρ, S, h⟩ := h
  exact h.ret (r _ _ _)
theorem se_int {i : Int} {j : Nat} : PE X (.Constant (.int i) j pos) (tm X.K X.mg WW (ret (.int i))) := PE.conv pe_int (ret_c fun _ _ _ => by simp only [RD])
theorem se_bl {i : Bool} {j : Nat} : PE X (.Constant (.bool i) j pos) (tm X.K X.mg WW (ret (.bl i))) := PE.conv pe_bl (ret_c fun _ _ _ => by simp only [RD])
theorem se_non {j : Nat} : PE X (.Constant .none j pos) (tm X.K X.mg WW (ret .non)) := PE.conv pe_non (ret_c fun _ _ _ => by simp only [RD])
theorem se_str {i : Str} {j : Nat} : PE X (.Constant (.str i) j pos) (tm X.K X.mg WW (ret (.str i))) := PE.conv pe_str (ret_c fun _ _ _ => by simp only [RD])

/-- what a rule by values asks, from the reading over the store -/
def Pr2 (K : PySem.W.Frag) (mg : Str → Option Value) (WW : WX) (p : D → D → W) (r : R2) : Prop := ∀ φ ρ S σ H Q d1 d2 x y, RD K φ H d1 x → RD K φ H d2 y → tmA K mg WW φ ρ S (p d1 d2) σ H Q → r x y H Q
def Pr1 (K : PySem.W.Frag) (mg : Str → Option Value) (WW : WX) (p : D → W) (r : V → Hp → VK → Prop) : Prop := ∀ φ ρ S σ H Q d1 x, RD K φ H d1 x → tmA K mg WW φ ρ S (p d1) σ H Q → r x H Q
theorem tOp_of {p : D → D → W} {r : R2} (h : Pr2 X.K X.mg WW p r) (σ : L2.St) (H : Hp) (Q : VK) (q : tm X.K X.mg WW (wOp p wa wb) σ H Q) : tOp r (tm X.K X.mg WW wa) (tm X.K X.mg WW wb) σ H Q := by
  obtain ⟨φ, ρ, S, q⟩ := q
  obtain ⟨rs, re, Q1, E1, w1, n1, x1⟩ := q.bind
  refine ⟨φ, ρ, S, rs, re, Q1, E1, w1, fun d S1 h1 v φ1 H1 e1 rs1 rd1 => ?_, x1⟩
  obtain ⟨d1, φ2, S2, e2, rd2, q2⟩ := n1 d S1 h1 v φ1 H1 e1 rs1 rd1
  obtain ⟨rs, re, Q1, E1, w1, n1, x1⟩ := q2.bind
  refine ⟨φ2, ρ, S2, rs, re, Q1, E1, w1, fun d S3 h3 v3 φ3 H3 e3 rs3 rd3 => ?_, x1⟩
  obtain ⟨d4, φ4, S4, e4, rd4, q4⟩ := n1 d S3 h3 v3 φ3 H3 e3 rs3 rd3
  exact h φ4 ρ S4 σ H3 Q d1 d4 v v3 (rd2.mono e4) rd4 q4
theorem tUn_of {p : D → W} {r : V → Hp → VK → Prop} (h : Pr1 X.K X.mg WW p r) (σ : L2.St) (H : Hp) (Q : VK) (q : tm X.K X.mg WW (wOp1 p wa) σ H Q) : tUn r (tm X.K X.mg WW wa) σ H Q := by
  obtain ⟨φ, ρ, S, q⟩ := q
  obtain ⟨rs, re, Q1, E1, w1, n1, x1⟩ := q.bind
  refine ⟨φ, ρ, S, rs, re, Q1, E1, w1, fun d S1 h1 v φ1 H1 e1 rs1 rd1 => ?_, x1⟩
  obtain ⟨d1, φ2, S2, e2, rd2, q2⟩ := n1 d S1 h1 v φ1 H1 e1 rs1 rd1
  exact h φ2 ρ S2 σ H1 Q d1 v rd2 q2
theorem se_bin {op : Operator} {p : D → D → W} {r : R2} (ho : OpR X (binaryOp op) r) (h : Pr2 X.K X.mg WW p r) (ha : PE X a (tm X.K X.mg WW wa)) (hb : PE X b (tm X.K X.mg WW wb)) :
    PE X (.BinOp a op b pos) (tm X.K X.mg WW (wOp p wa wb)) := PE.conv (pe_op ho ha hb) (tOp_of h)
theorem se_cmp {op : CmpOp} {p : D → D → W} {r : R2} (ho : OpR X (compareOp op) r) (h : Pr2 X.K X.mg WW p r) (ha : PE X a (tm X.K X.mg WW wa)) (hb : PE X b (tm X.K X.mg WW wb)) (hm : behindInMarks op b = false) :
    PE X (.Compare a [op] [b] pos) (tm X.K X.mg WW (wOp p wa wb)) := PE.conv (pe_cmpR ho ha hb hm) (tOp_of h)
end
section
variable {K : PySem.W.Frag} {mg : Str → Option Value} {WW : WX} {φ : List Addr} {ρ : DEnv} {S : Store} {σ : L2.St} {H : Hp} {Q : VK} {v x y : V} {wa : W}
theorem RD.int_inv {i : Int} (h : RD K φ H (.int i) v) : v = .int i := by simpa only [RD] using h
theorem RD.str_inv {i : Str} (h : RD K φ H (.str i) v) : v = .str i := by simpa only [RD] using h
theorem RD.bl_inv {i : Bool} (h : RD K φ H (.bl i) v) : v = .bl i := by simpa only [RD] using h
theorem RD.non_inv (h : RD K φ H .non v) : v = .non := by simpa only [RD] using h
theorem RD.int {i : Int} : RD K φ H (.int i) (.int i) := by simp only [RD]
theorem RD.str {i : Str} : RD K φ H (.str i) (.str i) := by simp only [RD]
theorem RD.bl {i : Bool} : RD K φ H (.bl i) (.bl i) := by simp only [RD]
theorem RD.non : RD K φ H .non .non := by simp only [RD]
theorem tmA.no (h : tmA K mg WW φ ρ S fail σ H Q) : False := by
  obtain ⟨_, _, _, _, hw, _⟩ := h
  exact hw
/-- the end of a reading that makes a list -/
theorem mk_list {Q' : PQ} {ds : List D} {vs : List V} (rs : RS K mg φ S H) (r : RDs K φ H ds vs) (hl : ds.length ≤ sizeLine)
    (hn : ∀ d S', Q' d S' → ∀ v φ' H', Ext φ H φ' H' → RS K mg φ' S' H' → RD K φ' H' d v → Q v H') (hq : Q' (.ref S.length) (S ++ [.lst ds])) (p : Addr) (hp : H p = none) : Q (.ref p) (upd H p (.lst vs)) := by
  have e := Ext.alloc (o := .lst vs) rs hp
  exact hn _ _ hq _ _ _ e (rs.alloc hp ⟨vs, upd_same, r.mono e, hl⟩) (alloc_ref rs p)
theorem mk_tup {Q' : PQ} {ds : List D} {vs : List V} (rs : RS K mg φ S H) (r : RDs K φ H ds vs)
    (hn : ∀ d S', Q' d S' → ∀ v φ' H', Ext φ H φ' H' → RS K mg φ' S' H' → RD K φ' H' d v → Q v H') (hq : Q' (.tup ds) S) (p : Addr) (hp : H p = none) : Q (.ref p) (upd H p (.tup vs)) := by
  have e := Ext.laid (o := .tup vs) rs hp
  refine hn _ _ hq _ _ _ e (rs.laid hp) ?_
  simp only [RD]
  exact ⟨p, vs, rfl, upd_same, r.mono e⟩
theorem pr_add : Pr2 K mg WW pAdd (fun x y H Q => (rI0 (fun i j => .int (i + j)) x y H Q ∨ (fun (x y : V) (H : Hp) (Q : VK) => ∃ i j, x = .str i ∧ y = .str j ∧ i.length + j.length ≤ sizeLine ∧ Q (.str (i ++ j)) H) x y H Q) ∨ rCat x y H Q) := by
  intro φ ρ S σ H Q d1 d2 x y r1 r2 h
  unfold pAdd at h
  split at h
  · rw [r1.int_inv, r2.int_inv]
    exact .inl (.inl ⟨_, _, rfl, rfl, h.ret RD.int⟩)
  · rw [r1.str_inv, r2.str_inv]
    obtain ⟨rs, re, Q', E', ⟨hl, hq⟩, hn, hx⟩ := h
    exact .inl (.inr ⟨_, _, rfl, rfl, hl, hn _ _ hq _ _ _ Ext.refl rs RD.str⟩)
  · obtain ⟨rs, re, Q', E', ⟨xs, ys, h1, h2, hl, hq⟩, hn, hx⟩ := h
    obtain ⟨a1, v1, rfl, _, e1, q1, _⟩ := rs.lst h1 r1
    obtain ⟨a2, v2, rfl, _, e2, q2, _⟩ := rs.lst h2 r2
    refine .inr ⟨a1, a2, v1, v2, rfl, rfl, e1, e2, by rw [← q1.length, ← q2.length]; exact hl, fun p hp => ?_⟩
    exact mk_list rs (q1.append q2) (by simpa using hl) hn hq p hp
  · exact h.no.elim
theorem pr_sub : Pr2 K mg WW pSub (rI0 (fun i j => .int (i - j))) := by
  intro φ ρ S σ H Q d1 d2 x y r1 r2 h
  unfold pSub at h
  split at h
  · rw [r1.int_inv, r2.int_inv]
    exact ⟨_, _, rfl, rfl, h.ret RD.int⟩
  · exact h.no.elim
theorem pr_mul : Pr2 K mg WW pMul (fun x y H Q => rI CMul (fun i j => .int (i * j)) x y H Q ∨ rI CMulW (fun i j => .int (i * j)) x y H Q) := by
  intro φ ρ S σ H Q d1 d2 x y r1 r2 h
  unfold pMul at h
  split at h
  · rw [r1.int_inv, r2.int_inv]
    obtain ⟨rs, re, Q', E', ⟨hl, hq⟩, hn, hx⟩ := h
    rcases hl with hl | hl
    · exact .inl ⟨_, _, rfl, rfl, hl, hn _ _ hq _ _ _ Ext.refl rs RD.int⟩
    · exact .inr ⟨_, _, rfl, rfl, hl, hn _ _ hq _ _ _ Ext.refl rs RD.int⟩
  · exact h.no.elim
theorem pr_div : Pr2 K mg WW pDiv (rI CDivW (fun i j => .int (i / j))) := by
  intro φ ρ S σ H Q d1 d2 x y r1 r2 h
  unfold pDiv at h
  split at h
  · rw [r1.int_inv, r2.int_inv]
    obtain ⟨rs, re, Q', E', ⟨hl, hq⟩, hn, hx⟩ := h
    exact ⟨_, _, rfl, rfl, hl, hn _ _ hq _ _ _ Ext.refl rs RD.int⟩
  · exact h.no.elim
theorem pr_mod : Pr2 K mg WW pMod (rI (fun _ j => 0 < j) (fun i j => .int (i % j))) := by
  intro φ ρ S σ H Q d1 d2 x y r1 r2 h
  unfold pMod at h
  split at h
  · rw [r1.int_inv, r2.int_inv]
    obtain ⟨rs, re, Q', E', ⟨hl, hq⟩, hn, hx⟩ := h
    exact ⟨_, _, rfl, rfl, hl, hn _ _ hq _ _ _ Ext.refl rs RD.int⟩
  · exact h.no.elim
theorem pr_pow : Pr2 K mg WW pPow (rI CPow (fun i j => .int (i ^ j.toNat))) := by
  intro φ ρ S σ H Q d1 d2 x y r1 r2 h
  unfold pPow at h
  split at h
  · rw [r1.int_inv, r2.int_inv]
    obtain ⟨rs, re, Q', E', ⟨hl, hq⟩, hn, hx⟩ := h
    exact ⟨_, _, rfl, rfl, hl, hn _ _ hq _ _ _ Ext.refl rs RD.int⟩
  · exact h.no.elim
theorem pr_neg : Pr1 K mg WW pNeg (rU fun i => .int (-i)) := by
  intro φ ρ S σ H Q d1 x r1 h
  unfold pNeg at h
  split at h
  · rw [r1.int_inv]
    exact ⟨_, rfl, h.ret RD.int⟩
  · exact h.no.elim
theorem pr_lt : Pr2 K mg WW pLt (rI0 (fun i j => .bl (decide (i < j)))) := by
  intro φ ρ S σ H Q d1 d2 x y r1 r2 h
  unfold pLt at h
  split at h
  · rw [r1.int_inv, r2.int_inv]
    exact ⟨_, _, rfl, rfl, h.ret RD.bl⟩
  · exact h.no.elim
theorem pr_le : Pr2 K mg WW pLe (rI0 (fun i j => .bl (decide (i ≤ j)))) := by
  intro φ ρ S σ H Q d1 d2 x y r1 r2 h
  unfold pLe at h
  split at h
  · rw [r1.int_inv, r2.int_inv]
    exact ⟨_, _, rfl, rfl, h.ret RD.bl⟩
  · exact h.no.elim
theorem pr_gt : Pr2 K mg WW pGt (rI0 (fun i j => .bl (decide (j < i)))) := by
  intro φ ρ S σ H Q d1 d2 x y r1 r2 h
  unfold pGt at h
  split at h
  · rw [r1.int_inv, r2.int_inv]
    exact ⟨_, _, rfl, rfl, h.ret RD.bl⟩
  · exact h.no.elim
theorem pr_ge : Pr2 K mg WW pGe (rI0 (fun i j => .bl (decide (j ≤ i)))) := by
  intro φ ρ S σ H Q d1 d2 x y r1 r2 h
  unfold pGe at h
  split at h
  · rw [r1.int_inv, r2.int_inv]
    exact ⟨_, _, rfl, rfl, h.ret RD.bl⟩
  · exact h.no.elim
theorem pr_eqG : Pr2 K mg WW pEqG (rEqD K) := by
  intro φ ρ S σ H Q d1 d2 x y r1 r2 h
  obtain ⟨rs, re, Q', E', ⟨p, q, hp, hq, s1, s2, hh⟩, hn, hx⟩ := h
  exact ⟨p, q, hp.dp rs r1, hq.dp rs r2, s1, s2, hn _ _ hh _ _ _ Ext.refl rs RD.bl⟩
theorem pr_neG : Pr2 K mg WW pNeG (rNeD K) := by
  intro φ ρ S σ H Q d1 d2 x y r1 r2 h
  obtain ⟨rs, re, Q', E', ⟨p, q, hp, hq, s1, s2, hh⟩, hn, hx⟩ := h
  exact ⟨p, q, hp.dp rs r1, hq.dp rs r2, s1, s2, hn _ _ hh _ _ _ Ext.refl rs RD.bl⟩
theorem dec_int (i j : Int) : decide (V.int i = V.int j) = decide (i = j) := by
  by_cases h : i = j
  · rw [decide_eq_true h, decide_eq_true (congrArg V.int h)]
  · rw [decide_eq_false h, decide_eq_false fun e => h (V.int.inj e)]
theorem dec_str (i j : Str) : decide (V.str i = V.str j) = decide (i = j) := by
  by_cases h : i = j
  · rw [decide_eq_true h, decide_eq_true (congrArg V.str h)]
  · rw [decide_eq_false h, decide_eq_false fun e => h (V.str.inj e)]
theorem pr_eq : Pr2 K mg WW pEq (fun x y H Q => rEq x y H Q ∨ rEqD K x y H Q) := by
  intro φ ρ S σ H Q d1 d2 x y r1 r2 h
  unfold pEq at h
  split at h
  · rw [r1.int_inv, r2.int_inv]
    refine .inl ⟨rfl, ?_⟩
    rw [dec_int]
    exact h.ret RD.bl
  · rw [r1.str_inv, r2.str_inv]
    refine .inl ⟨rfl, ?_⟩
    rw [dec_str]
    exact h.ret RD.bl
  · exact .inr (pr_eqG φ ρ S σ H Q _ _ x y r1 r2 h)
theorem pr_ne : Pr2 K mg WW pNe (fun x y H Q => rNe x y H Q ∨ rNeD K x y H Q) := by
  intro φ ρ S σ H Q d1 d2 x y r1 r2 h
  unfold pNe at h
  split at h
  · rw [r1.int_inv, r2.int_inv]
    refine .inl ⟨rfl, ?_⟩
    rw [dec_int]
    exact h.ret RD.bl
  · rw [r1.str_inv, r2.str_inv]
    refine .inl ⟨rfl, ?_⟩
    rw [dec_str]
    exact h.ret RD.bl
  · exact .inr (pr_neG φ ρ S σ H Q _ _ x y r1 r2 h)
theorem isNon_iff {d : D} (r : RD K φ H d x) : decide (x = .non) = isNon d := by
  cases d <;> simp only [RD] at r <;> (try (subst r; rfl))
  · obtain ⟨a, vs, rfl, _⟩ := r; rfl
  · obtain ⟨a, vs, rfl, _⟩ := r; rfl
  · obtain ⟨a, _, rfl⟩ := r; rfl
def pIsN2 (d _e : D) : W := pIsN d
def pNotN2 (d _e : D) : W := pNotN d
theorem pr_isB : Pr2 K mg WW pIsB rIsB := by
  intro φ ρ S σ H Q d1 d2 x y r1 r2 h
  unfold pIsB at h
  split at h
  · rw [r1.bl_inv, r2.bl_inv]
    exact ⟨_, _, rfl, rfl, h.ret RD.bl⟩
  · exact h.no.elim
theorem pr_notB : Pr2 K mg WW pNotB rNotB := by
  intro φ ρ S σ H Q d1 d2 x y r1 r2 h
  unfold pNotB at h
  split at h
  · rw [r1.bl_inv, r2.bl_inv]
    exact ⟨_, _, rfl, rfl, h.ret RD.bl⟩
  · exact h.no.elim
theorem atI_rd {xs : List D} {vs : List V} {i : Int} {d : D} (r : RDs K φ H xs vs) (h : atI xs i = some d) : ∃ v, atI vs i = some v ∧ RD K φ H d v := by
  unfold atI at h ⊢
  rw [← r.length]
  cases e : ixN xs.length i with
  | none => rw [e] at h; cases h
  | some j => rw [e] at h; exact r.get h
theorem pr_ix : Pr2 K mg WW pIx (rIx K) := by
  intro φ ρ S σ H Q d1 d2 x y r1 r2 h
  unfold pIx at h
  split at h
  · obtain ⟨rs, re, Q', E', ⟨xs, d, h1, h2, hq⟩, hn, hx⟩ := h
    obtain ⟨a1, v1, rfl, _, e1, q1, _⟩ := rs.lst h1 r1
    rw [r2.int_inv]
    obtain ⟨v, e2, rv⟩ := atI_rd q1 h2
    exact .inl ⟨a1, v1, _, v, rfl, rfl, SqL.of e1, e2, hn _ _ hq _ _ _ Ext.refl rs rv⟩
  · obtain ⟨rs, re, Q', E', ⟨d, h2, hq⟩, hn, hx⟩ := h
    simp only [RD] at r1
    obtain ⟨a1, v1, rfl, e1, q1⟩ := r1
    rw [r2.int_inv]
    obtain ⟨v, e2, rv⟩ := atI_rd q1 h2
    exact .inr (.inl ⟨a1, v1, _, v, rfl, rfl, SqT.of e1, e2, hn _ _ hq _ _ _ Ext.refl rs rv⟩)
  · obtain ⟨rs, re, Q', E', ⟨d, h2, hq⟩, hn, hx⟩ := h
    simp only [RD] at r1
    obtain ⟨a1, v1, rfl, e1, q1⟩ := r1
    rw [r2.int_inv]
    obtain ⟨v, e2, rv⟩ := atI_rd q1 h2
    exact .inl ⟨a1, v1, _, v, rfl, rfl, e1.seq, e2, hn _ _ hq _ _ _ Ext.refl rs rv⟩
  · obtain ⟨rs, re, Q', E', ⟨c, h1, h2, hq⟩, hn, hx⟩ := h
    rw [r1.str_inv, r2.int_inv]
    exact .inr (.inr ⟨_, _, c, rfl, rfl, h1, h2, hn _ _ hq _ _ _ Ext.refl rs RD.str⟩)
  · exact h.no.elim
theorem cut_rd {xs : List D} {vs : List V} {lo hi : Option Int} (r : RDs K φ H xs vs) : RDs K φ H (cutD xs lo hi) (cutV vs lo hi) := by
  unfold cutD cutV
  rw [r.length]
  exact (r.drop _).take _
theorem cutD_length (xs : List D) (lo hi : Option Int) : (cutD xs lo hi).length ≤ xs.length := by
  unfold cutD
  rw [List.length_take, List.length_drop]
  omega
theorem pr_sl {l h : Option Int} {d : D} (r : RD K φ H d x) (hh : tmA K mg WW φ ρ S (pSl d l h) σ H Q) : (rSlL K x l h H Q ∨ rSlS x l h H Q) ∨ rSlT K x l h H Q := by
  unfold pSl at hh
  split at hh
  · obtain ⟨rs, re, Q', E', ⟨xs, h1, hq⟩, hn, hx⟩ := hh
    obtain ⟨a1, v1, rfl, _, e1, q1, z⟩ := rs.lst h1 r
    refine .inl (.inl ⟨a1, v1, rfl, SqL.of e1, fun p hp => ?_⟩)
    exact mk_list rs (cut_rd q1) (Nat.le_trans (cutD_length _ _ _) z) hn hq p hp
  · obtain ⟨rs, re, Q', E', ⟨z, hq⟩, hn, hx⟩ := hh
    simp only [RD] at r
    obtain ⟨a1, v1, rfl, e1, q1⟩ := r
    refine .inl (.inl ⟨a1, v1, rfl, e1.seq, fun p hp => ?_⟩)
    exact mk_list rs (cut_rd q1) (Nat.le_trans (cutD_length _ _ _) z) hn hq p hp
  · obtain ⟨rs, re, Q', E', ⟨z, hq⟩, hn, hx⟩ := hh
    rw [r.str_inv]
    exact .inl (.inr ⟨_, rfl, z, hn _ _ hq _ _ _ Ext.refl rs RD.str⟩)
  · obtain ⟨rs, re, Q', E', ⟨z, hq⟩, hn, hx⟩ := hh
    simp only [RD] at r
    obtain ⟨a1, v1, rfl, e1, q1⟩ := r
    refine .inr ⟨a1, v1, rfl, SqT.of e1, by rw [← q1.length]; exact z, fun p hp => ?_⟩
    exact mk_tup rs (cut_rd q1) hn hq p hp
  · exact hh.no.elim
theorem pr_rev (q : tm K mg WW (wOp1 pRev wa) σ H Q) : tRevL K (tm K mg WW wa) σ H Q := by
  obtain ⟨φ, ρ, S, q⟩ := q
  obtain ⟨rs, re, Q1, E1, w1, n1, x1⟩ := q.bind
  refine ⟨φ, ρ, S, rs, re, Q1, E1, w1, fun d S1 h1 v φ1 H1 e1 rs1 rd1 => ?_, x1⟩
  obtain ⟨d1, φ2, S2, e2, rd2, q2⟩ := n1 d S1 h1 v φ1 H1 e1 rs1 rd1
  unfold pRev at q2
  split at q2
  · obtain ⟨rs, re, Q', E', ⟨xs, h1, hq⟩, hn, hx⟩ := q2
    obtain ⟨a1, v1, rfl, _, e1, q1, z⟩ := rs.lst h1 rd2
    refine ⟨a1, v1, rfl, SqL.of e1, fun p hp => ?_⟩
    exact mk_list rs q1.reverse (by simpa using z) hn hq p hp
  · exact q2.no.elim
end

/-! ### the rules -/
section
variable {X : Cx} {WW : WX} {a b c e : Expr} {es : List Expr} {pos : Pos} {wa wb wc : W} {ws : List W}
theorem se_add (ha : PE X a (tm X.K X.mg WW wa)) (hb : PE X b (tm X.K X.mg WW wb)) : PE X (.BinOp a .Add b pos) (tm X.K X.mg WW (wOp pAdd wa wb)) := se_bin ((op_add.or op_add_str).or op_cat) pr_add ha hb
theorem se_sub (ha : PE X a (tm X.K X.mg WW wa)) (hb : PE X b (tm X.K X.mg WW wb)) : PE X (.BinOp a .Sub b pos) (tm X.K X.mg WW (wOp pSub wa wb)) := se_bin op_sub pr_sub ha hb
theorem se_mul (ha : PE X a (tm X.K X.mg WW wa)) (hb : PE X b (tm X.K X.mg WW wb)) : PE X (.BinOp a .Mult b pos) (tm X.K X.mg WW (wOp pMul wa wb)) := se_bin (op_mul.or op_mulW) pr_mul ha hb
theorem se_div (ha : PE X a (tm X.K X.mg WW wa)) (hb : PE X b (tm X.K X.mg WW wb)) : PE X (.BinOp a .FloorDiv b pos) (tm X.K X.mg WW (wOp pDiv wa wb)) := se_bin op_fdivW pr_div ha hb
theorem se_mod (ha : PE X a (tm X.K X.mg WW wa)) (hb : PE X b (tm X.K X.mg WW wb)) : PE X (.BinOp a .Mod b pos) (tm X.K X.mg WW (wOp pMod wa wb)) := se_bin op_mod pr_mod ha hb
theorem se_pow (ha : PE X a (tm X.K X.mg WW wa)) (hb : PE X b (tm X.K X.mg WW wb)) : PE X (.BinOp a .Pow b pos) (tm X.K X.mg WW (wOp pPow wa wb)) := se_bin op_pow pr_pow ha hb
theorem se_neg (ha : PE X a (tm X.K X.mg WW wa)) : PE X (.UnaryOp .USub a pos) (tm X.K X.mg WW (wOp1 pNeg wa)) := PE.conv (pe_un un_neg ha) (tUn_of pr_neg)
theorem se_lt (ha : PE X a (tm X.K X.mg WW wa)) (hb : PE X b (tm X.K X.mg WW wb)) : PE X (.Compare a [.Lt] [b] pos) (tm X.K X.mg WW (wOp pLt wa wb)) := se_cmp op_lt pr_lt ha hb (nomark _)
theorem se_le (ha : PE X a (tm X.K X.mg WW wa)) (hb : PE X b (tm X.K X.mg WW wb)) : PE X (.Compare a [.LtE] [b] pos) (tm X.K X.mg WW (wOp pLe wa wb)) := se_cmp op_le pr_le ha hb (nomark _)
theorem se_gt (ha : PE X a (tm X.K X.mg WW wa)) (hb : PE X b (tm X.K X.mg WW wb)) : PE X (.Compare a [.Gt] [b] pos) (tm X.K X.mg WW (wOp pGt wa wb)) := se_cmp op_gt pr_gt ha hb (nomark _)
theorem se_ge (ha : PE X a (tm X.K X.mg WW wa)) (hb : PE X b (tm X.K X.mg WW wb)) : PE X (.Compare a [.GtE] [b] pos) (tm X.K X.mg WW (wOp pGe wa wb)) := se_cmp op_ge pr_ge ha hb (nomark _)
theorem se_eq (hu : X.A.units + 64 < cLine) (ha : PE X a (tm X.K X.mg WW wa)) (hb : PE X b (tm X.K X.mg WW wb)) : PE X (.Compare a [.Eq] [b] pos) (tm X.K X.mg WW (wOp pEq wa wb)) := se_cmp (op_eq.or (op_eqD hu)) pr_eq ha hb (nomark _)
theorem se_ne (hu : X.A.units + 64 < cLine) (ha : PE X a (tm X.K X.mg WW wa)) (hb : PE X b (tm X.K X.mg WW wb)) : PE X (.Compare a [.NotEq] [b] pos) (tm X.K X.mg WW (wOp pNe wa wb)) := se_cmp (op_ne.or (op_neD hu)) pr_ne ha hb (nomark _)
theorem se_isB (ha : PE X a (tm X.K X.mg WW wa)) (hb : PE X b (tm X.K X.mg WW wb)) : PE X (.Compare a [.Is] [b] pos) (tm X.K X.mg WW (wOp pIsB wa wb)) := se_cmp op_isBl pr_isB ha hb (nomark _)
theorem se_notB (ha : PE X a (tm X.K X.mg WW wa)) (hb : PE X b (tm X.K X.mg WW wb)) : PE X (.Compare a [.IsNot] [b] pos) (tm X.K X.mg WW (wOp pNotB wa wb)) := se_cmp op_notBl pr_notB ha hb (nomark _)
theorem se_isN {j : Nat} {p : Pos} (ha : PE X a (tm X.K X.mg WW wa)) : PE X (.Compare a [.Is] [.Constant .none j p] pos) (tm X.K X.mg WW (wOp1 pIsN wa)) := by
  refine PE.conv (pe_cmp (pc_isN ha) rfl) fun σ H Q q => ?_
  obtain ⟨φ, ρ, S, q⟩ := q
  obtain ⟨rs, re, Q1, E1, w1, n1, x1⟩ := q.bind
  refine ⟨φ, ρ, S, rs, re, Q1, E1, w1, fun d S1 h1 v φ1 H1 e1 rs1 rd1 => ?_, x1⟩
  obtain ⟨d1, φ2, S2, e2, rd2, q2⟩ := n1 d S1 h1 v φ1 H1 e1 rs1 rd1
  rw [isNon_iff rd2]
  exact q2.ret RD.bl
theorem se_notN {j : Nat} {p : Pos} (ha : PE X a (tm X.K X.mg WW wa)) : PE X (.Compare a [.IsNot] [.Constant .none j p] pos) (tm X.K X.mg WW (wOp1 pNotN wa)) := by
  refine PE.conv (pe_cmp (pc_notN ha) rfl) fun σ H Q q => ?_
  obtain ⟨φ, ρ, S, q⟩ := q
  obtain ⟨rs, re, Q1, E1, w1, n1, x1⟩ := q.bind
  refine ⟨φ, ρ, S, rs, re, Q1, E1, w1, fun d S1 h1 v φ1 H1 e1 rs1 rd1 => ?_, x1⟩
  obtain ⟨d1, φ2, S2, e2, rd2, q2⟩ := n1 d S1 h1 v φ1 H1 e1 rs1 rd1
  rw [isNon_iff rd2]
  exact q2.ret RD.bl
theorem se_ix (ha : PE X a (tm X.K X.mg WW wa)) (hb : PE X b (tm X.K X.mg WW wb)) (hs : PlainIx b) : PE X (.Subscript a b pos) (tm X.K X.mg WW (wOp pIx wa wb)) := PE.conv (pe_ix ix_seq ha hb hs) (tOp_of pr_ix)
theorem se_rev {k : Nat} {p1 p2 p3 : Pos} (ha : PE X a (tm X.K X.mg WW wa)) : PE X (.Subscript a (.Slice none none (some (.UnaryOp .USub (.Constant (.int 1) k p1) p2)) p3) pos) (tm X.K X.mg WW (wOp1 pRev wa)) := PE.conv (pe_revL ha) fun σ H Q q => pr_rev q
/-! tests -/
abbrev ttm (K : PySem.W.Frag) (mg : Str → Option Value) (WW : WX) (w : W) : TT := tTest (tm K mg WW w)
theorem st_val (h : PE X e (tm X.K X.mg WW wa)) (he : ∀ whole, isTrue e X.env whole = (do let v ← whole; standAt e.pos; holding [v] (truthy v)) := by intro _; rfl) : PT X e (ttm X.K X.mg WW wa) := PT.conv (pt_val h he) fun σ H Q q => q
theorem st_cmp {op : CmpOp} {p : D → D → W} {r : R2} (ho : OpR X (compareOp op) r) (h : Pr2 X.K X.mg WW p r) (ha : PE X a (tm X.K X.mg WW wa)) (hb : PE X b (tm X.K X.mg WW wb)) (hm : behindInMarks op b = false) :
    PT X (.Compare a [op] [b] pos) (ttm X.K X.mg WW (wOp p wa wb)) := PT.conv (pt_cmpR ho ha hb hm) fun σ H Q q => tOp_of h σ H _ q
end

section
variable {K : PySem.W.Frag} {mg : Str → Option Value} {WW : WX} {wa wb wc : W}
/-- the first of two parts is read -/
theorem tm_bind {k : D → W} {σ : L2.St} {H : Hp} {Q : VK} (q : tm K mg WW (bindW wa k) σ H Q) {R : VK} (h : ∀ d v φ ρ S H1, RD K φ H1 d v → tmA K mg WW φ ρ S (k d) σ H1 Q → R v H1) : tm K mg WW wa σ H R := by
  obtain ⟨φ, ρ, S, q⟩ := q
  obtain ⟨rs, re, Q1, E1, w1, n1, x1⟩ := q.bind
  refine ⟨φ, ρ, S, rs, re, Q1, E1, w1, fun d S1 h1 v φ1 H1 e1 rs1 rd1 => ?_, x1⟩
  obtain ⟨d1, φ2, S2, e2, rd2, q2⟩ := n1 d S1 h1 v φ1 H1 e1 rs1 rd1
  exact h d1 v φ2 ρ S2 H1 rd2 q2
theorem tmA.tm {φ : List Addr} {ρ : DEnv} {S : Store} {w : W} {σ : L2.St} {H : Hp} {Q : VK} (h : tmA K mg WW φ ρ S w σ H Q) : tm K mg WW w σ H Q := ⟨φ, ρ, S, h⟩
theorem tmA.pB {k : Bool → W} {d : D} {v : V} {φ : List Addr} {ρ : DEnv} {S : Store} {σ : L2.St} {H : Hp} {Q : VK} (r : RD K φ H d v) (h : tmA K mg WW φ ρ S (pB k d) σ H Q) : ∃ b, v = .bl b ∧ tmA K mg WW φ ρ S (k b) σ H Q := by
  unfold GS.pB at h
  split at h
  · exact ⟨_, r.bl_inv, h⟩
  · exact h.no.elim
end
section
variable {X : Cx} {WW : WX} {a b c e : Expr} {es rest : List Expr} {pos : Pos} {wa wb wc : W} {ws : List W}
theorem se_one {op : BoolOp} (h : PE X a (tm X.K X.mg WW wa)) : PE X (.BoolOp op [a] pos) (tm X.K X.mg WW wa) := pe_one h
theorem se_and (ha : PE X a (tm X.K X.mg WW wa)) (hb : PE X (.BoolOp .And (b :: rest) pos) (tm X.K X.mg WW wb)) : PE X (.BoolOp .And (a :: b :: rest) pos) (tm X.K X.mg WW (wAnd wa wb)) :=
  PE.conv (pe_and ha hb) fun σ H Q q => tm_bind q fun d v φ ρ S H1 r h => by
    obtain ⟨k, rfl, h⟩ := h.pB r
    refine ⟨k, rfl, ?_⟩
    cases k with
    | true => exact h.tm
    | false => exact h.ret RD.bl
theorem se_or (ha : PE X a (tm X.K X.mg WW wa)) (hb : PE X (.BoolOp .Or (b :: rest) pos) (tm X.K X.mg WW wb)) : PE X (.BoolOp .Or (a :: b :: rest) pos) (tm X.K X.mg WW (wOr wa wb)) :=
  PE.conv (pe_or ha hb) fun σ H Q q => tm_bind q fun d v φ ρ S H1 r h => by
    obtain ⟨k, rfl, h⟩ := h.pB r
    refine ⟨k, rfl, ?_⟩
    cases k with
    | true => exact h.ret RD.bl
    | false => exact h.tm
theorem se_not (ha : PE X a (tm X.K X.mg WW wa)) : PE X (.UnaryOp .Not a pos) (tm X.K X.mg WW (wNot wa)) :=
  PE.conv (pe_not ha) fun σ H Q q => tm_bind q fun d v φ ρ S H1 r h => by
    obtain ⟨k, rfl, h⟩ := h.pB r
    exact ⟨k, rfl, h.ret RD.bl⟩
theorem st_one {op : BoolOp} (h : PT X a (ttm X.K X.mg WW wa)) : PW X (.BoolOp op [a] pos) (ttm X.K X.mg WW wa) := by
  cases op with
  | And => exact pw_and1 h
  | Or => exact pw_or1 h
theorem PW.conv {X : Cx} {e : Expr} {t u : TT} (h : PW X e t) (q : ∀ σ H Q, u σ H Q → t σ H Q) : PW X e u := ⟨fun wh pins s σ H Q I hw => h.run wh pins s σ H Q I (q σ H Q hw)⟩
theorem st_and (ha : PT X a (ttm X.K X.mg WW wa)) (hb : PW X (.BoolOp .And (b :: rest) pos) (ttm X.K X.mg WW wb)) : PW X (.BoolOp .And (a :: b :: rest) pos) (ttm X.K X.mg WW (wAnd wa wb)) :=
  PW.conv (pw_and ha hb) fun σ H Q q => tm_bind q fun d v φ ρ S H1 r h => by
    obtain ⟨k, rfl, h⟩ := h.pB r
    refine ⟨k, rfl, ?_⟩
    cases k with
    | true => exact h.tm
    | false =>
      obtain ⟨k, e, z⟩ := h.ret RD.bl
      cases e
      exact z
theorem st_or (ha : PT X a (ttm X.K X.mg WW wa)) (hb : PW X (.BoolOp .Or (b :: rest) pos) (ttm X.K X.mg WW wb)) : PW X (.BoolOp .Or (a :: b :: rest) pos) (ttm X.K X.mg WW (wOr wa wb)) :=
  PW.conv (pw_or ha hb) fun σ H Q q => tm_bind q fun d v φ ρ S H1 r h => by
    obtain ⟨k, rfl, h⟩ := h.pB r
    refine ⟨k, rfl, ?_⟩
    cases k with
    | true =>
      obtain ⟨k, e, z⟩ := h.ret RD.bl
      cases e
      exact z
    | false => exact h.tm
theorem st_not (ha : PT X a (ttm X.K X.mg WW wa)) : PT X (.UnaryOp .Not a pos) (ttm X.K X.mg WW (wNot wa)) :=
  PT.conv (pt_not ha) fun σ H Q q => tm_bind q fun d v φ ρ S H1 r h => by
    obtain ⟨k, rfl, h⟩ := h.pB r
    obtain ⟨k', e, z⟩ := h.ret RD.bl
    cases e
    exact ⟨k, rfl, z⟩
theorem tChain_of {p p' : D → D → W} {r r' : R2} (h : Pr2 X.K X.mg WW p r) (h' : Pr2 X.K X.mg WW p' r') (σ : L2.St) (H : Hp) (Q : VK) (q : tm X.K X.mg WW (wChain p p' wa wb wc) σ H Q) :
    tChain r r' (tm X.K X.mg WW wa) (tm X.K X.mg WW wb) (tm X.K X.mg WW wc) σ H Q := by
  refine tm_bind q fun d v φ ρ S H1 r1 h1 => ?_
  obtain ⟨rs, re, Q1, E1, w1, n1, x1⟩ := h1.bind
  refine ⟨φ, ρ, S, rs, re, Q1, E1, w1, fun d2 S2 h2 v2 φ2 H2 e2 rs2 rd2 => ?_, x1⟩
  obtain ⟨d2, φ2, S2, e2, rd2, q2⟩ := n1 d2 S2 h2 v2 φ2 H2 e2 rs2 rd2
  have q3 := q2.bind
  refine h φ2 ρ S2 σ H2 _ d d2 v v2 (r1.mono e2) rd2 ?_
  obtain ⟨rs3, re3, Q3, E3, w3, n3, x3⟩ := q3
  refine ⟨rs3, re3, Q3, E3, w3, fun d4 S4 h4 v4 φ4 H4 e4 rs4 rd4 => ?_, x3⟩
  obtain ⟨d4, φ4, S4, e4, rd4, q4⟩ := n3 d4 S4 h4 v4 φ4 H4 e4 rs4 rd4
  obtain ⟨k, rfl, h5⟩ := q4.pB rd4
  refine ⟨k, rfl, ?_⟩
  cases k with
  | true =>
    obtain ⟨rs5, re5, Q5, E5, w5, n5, x5⟩ := (show tmA X.K X.mg WW φ4 ρ S4 (bindW wc fun z => p' d2 z) σ H4 Q from h5).bind
    refine ⟨φ4, ρ, S4, rs5, re5, Q5, E5, w5, fun d6 S6 h6 v6 φ6 H6 e6 rs6 rd6 => ?_, x5⟩
    obtain ⟨d6, φ6, S6, e6, rd6, q6⟩ := n5 d6 S6 h6 v6 φ6 H6 e6 rs6 rd6
    exact h' φ6 ρ S6 σ H6 Q d2 d6 v2 v6 ((rd2.mono e4).mono e6) rd6 q6
  | false => exact h5.ret RD.bl
theorem se_chain {op op' : CmpOp} {p p' : D → D → W} {r r' : R2} (ho : OpR X (compareOp op) r) (ho' : OpR X (compareOp op') r') (h : Pr2 X.K X.mg WW p r) (h' : Pr2 X.K X.mg WW p' r')
    (ha : PE X a (tm X.K X.mg WW wa)) (hb : PE X b (tm X.K X.mg WW wb)) (hc : PE X c (tm X.K X.mg WW wc)) (hm : lastMarks [op, op'] [b, c] = false := by with_unfolding_all rfl) :
    PE X (.Compare a [op, op'] [b, c] pos) (tm X.K X.mg WW (wChain p p' wa wb wc)) := PE.conv (pe_chain ho ho' ha hb hc hm) (tChain_of h h')
theorem st_chain {op op' : CmpOp} {p p' : D → D → W} {r r' : R2} (ho : OpR X (compareOp op) r) (ho' : OpR X (compareOp op') r') (h : Pr2 X.K X.mg WW p r) (h' : Pr2 X.K X.mg WW p' r')
    (ha : PE X a (tm X.K X.mg WW wa)) (hb : PE X b (tm X.K X.mg WW wb)) (hc : PE X c (tm X.K X.mg WW wc)) (hm : lastMarks [op, op'] [b, c] = false := by with_unfolding_all rfl) :
    PT X (.Compare a [op, op'] [b, c] pos) (ttm X.K X.mg WW (wChain p p' wa wb wc)) := PT.conv (pt_chain ho ho' ha hb hc hm) fun σ H Q q => tChain_of h h' σ H _ q

/-! ### argument lists -/
theorem sa_nil : PA X [] (tma X.K X.mg WW []) := PA.conv pa_nil fun σ H Q ⟨φ, ρ, S, rs, re, Q', E', hw, hn, hx⟩ => hn [] S hw [] φ H Ext.refl rs RDs.nil
theorem sa_cons (ha : PE X e (tm X.K X.mg WW wa)) (hr : PA X es (tma X.K X.mg WW ws)) (hs : starEach (e :: es) X.env = (false, eval e X.env) :: starEach es X.env := by rfl) : PA X (e :: es) (tma X.K X.mg WW (wa :: ws)) := by
  refine PA.conv (pa_cons ha hr hs) fun σ H Q ⟨φ, ρ, S, rs, re, Q', E', hw, hn, hx⟩ => ?_
  refine ⟨φ, ρ, S, rs, re, _, E', hw, fun d S1 h1 v φ1 H1 e1 rs1 rd1 => ?_, hx⟩
  refine ⟨φ1, ρ, S1, rs1, re.mono e1, _, E', h1, fun ds S2 h2 vs φ2 H2 e2 rs2 rd2 => ?_, fun c ρ2 S2 h2 u φ2 H2 σ2 y rs2 re2 m => hx c ρ2 S2 h2 u φ2 H2 σ2 (e1.trans y) rs2 re2 m⟩
  exact hn _ _ h2 _ _ _ (e1.trans e2) rs2 (RDs.cons (rd1.mono e2) rd2)
theorem se_tup {k : Nat} (h : PA X es (tma X.K X.mg WW ws)) : PE X (.Tuple es k pos) (tm X.K X.mg WW (wTup ws)) := by
  refine PE.conv (pe_tup h) fun σ H Q ⟨φ, ρ, S, rs, re, Q', E', hw, hn, hx⟩ => ?_
  refine ⟨φ, ρ, S, rs, re, _, E', hw, fun ds S1 ⟨hl, h1⟩ vs φ1 H1 e1 rs1 rd1 => ?_, hx⟩
  refine ⟨by rw [← rd1.length]; exact Nat.le_of_lt (small1000 hl), fun p hp => ?_⟩
  exact mk_tup rs1 rd1 (fun d S' a v φ' H' x => hn d S' a v φ' H' (e1.trans x)) h1 p hp
theorem se_lst (h : PA X es (tma X.K X.mg WW ws)) : PE X (.List es pos) (tm X.K X.mg WW (wLst ws)) := by
  refine PE.conv (pe_lst h) fun σ H Q ⟨φ, ρ, S, rs, re, Q', E', hw, hn, hx⟩ => ?_
  refine ⟨φ, ρ, S, rs, re, _, E', hw, fun ds S1 ⟨hl, h1⟩ vs φ1 H1 e1 rs1 rd1 => ?_, hx⟩
  refine ⟨by rw [← rd1.length]; exact Nat.le_of_lt (small1000 hl), fun p hp => ?_⟩
  exact mk_list rs1 rd1 (Nat.le_of_lt (small1000 hl)) (fun d S' a v φ' H' x => hn d S' a v φ' H' (e1.trans x)) h1 p hp

/-! ### calls of the text's own defs -/
def spOf (K : PySem.W.Frag) (mg : Str → Option Value) (sp : SPf) : Sp := fun vs H Q E => ∃ φ S ds, RS K mg φ S H ∧ RDs K φ H ds vs ∧ ∃ (Q' : PQ) (E' : Str → Store → Prop), sp ds S Q' E' ∧
  (∀ d S', Q' d S' → ∀ v φ' H', Ext φ H φ' H' → RS K mg φ' S' H' → RD K φ' H' d v → Q v H') ∧
  (∀ c S', E' c S' → ∀ u φ' H', Ext φ H φ' H' → RS K mg φ' S' H' → mg c = some u → E u none H')
/-- the default values -/
def flatD : D → V → Prop := fun d v => ∀ K φ H, RD K φ H d v
theorem flats {K : PySem.W.Frag} {φ : List Addr} {H : Hp} : ∀ {ds : List D} {vs : List V}, Paired flatD ds vs → RDs K φ H ds vs
  | _, _, .nil => RDs.nil
  | _, _, .cons h t => RDs.cons (h K φ H) (flats t)
theorem se_call {k : Nat} {f : Addr} {fd : FuncData} {ps : List Str} {sp : SPf} {dfl : List D} {dvs : List V} {ds : List Value} {x : Str} {p : Pos} (F : FnOk X.prog X.w X.K X.mg X.base (L2.CX X.prog X.w) k f fd ps (spOf X.K X.mg sp)) (hr : Room k X.A) (hg : Gl X x) (hm : X.mg x = some (.ref f))
    (hk : PySem.W.keepIn X.K (.ref f) = true) (hb : Binds X.K fd ps ds) (hd : Vals dvs ds) (hf : Paired flatD dfl dvs) (tk : Takes X WW) (ha : PA X (e :: es) (tma X.K X.mg WW ws)) (hdb : (x == ("__debug__" : Str)) = false := by decide)
    (he : starEach (e :: es) X.env = (false, eval e X.env) :: starEach es X.env := by rfl) (hpl : (backTo pos (starEach es X.env)).any (·.1) = false := by rfl) : PE X (.Call (.Name x p) (e :: es) [] pos) (tm X.K X.mg WW (wCall sp ws dfl)) := by
  refine PE.conv (pe_callSD F hr hg hm hk hb hd (E := WE WW) (fun σ => passAt tk σ) ha hdb he hpl) fun σ H Q ⟨φ, ρ, S, rs, re, Q', E', hw, hn, hx⟩ => ?_
  refine ⟨φ, ρ, S, rs, re, _, E', hw, fun ds S1 h1 vs φ1 H1 e1 rs1 rd1 => ?_, hx⟩
  refine ⟨φ1, S1, _, rs1, rd1.append (flats hf), _, _, h1, fun d S2 h2 v φ2 H2 e2 rs2 rd2 => hn d S2 h2 v φ2 H2 (e1.trans e2) rs2 rd2, fun c S2 h2 u φ2 H2 e2 rs2 m => ?_⟩
  exact hx c ρ S2 h2 u φ2 H2 σ (e1.trans e2) rs2 (re.mono (e1.trans e2)) m

/-! ### calls of built-ins -/
def PrB (K : PySem.W.Frag) (mg : Str → Option Value) (WW : WX) (b : BPf) (r : List V → Hp → VK → Prop) : Prop := ∀ φ ρ S σ H Q ds vs, RDs K φ H ds vs → tmA K mg WW φ ρ S (b ds) σ H Q → r vs H Q
theorem tCB_of {bf : BPf} {r : List V → Hp → VK → Prop} (h : PrB X.K X.mg WW bf r) (σ : L2.St) (H : Hp) (Q : VK) (q : tm X.K X.mg WW (wB bf ws) σ H Q) : tCB r (tma X.K X.mg WW ws) σ H Q := by
  obtain ⟨φ, ρ, S, rs, re, Q', E', hw, hn, hx⟩ := q
  refine ⟨φ, ρ, S, rs, re, _, E', hw, fun ds S1 h1 vs φ1 H1 e1 rs1 rd1 => ?_, hx⟩
  exact h φ1 ρ S1 σ H1 Q ds vs rd1 ⟨rs1, re.mono e1, Q', E', h1, fun d S2 h2 v φ2 H2 e2 rs2 rd2 => hn d S2 h2 v φ2 H2 (e1.trans e2) rs2 rd2, fun c ρ2 S2 h2 u φ2 H2 σ2 y rs2 re2 m => hx c ρ2 S2 h2 u φ2 H2 σ2 (e1.trans y) rs2 re2 m⟩
theorem se_callB {bf : BPf} {r : List V → Hp → VK → Prop} {id : String} {x : Str} {p : Pos} (hc : CallR X (.builtin id) r) (h : PrB X.K X.mg WW bf r) (hg : Gl X x) (hm : X.mg x = none) (hv : bootBuiltins x = some (.builtin id)) (ha : PA X (e :: es) (tma X.K X.mg WW ws)) (hn : x ≠ "__name__" := by decide) (hdb : (x == ("__debug__" : Str)) = false := by decide)
    (he : starEach (e :: es) X.env = (false, eval e X.env) :: starEach es X.env := by rfl) (hpl : (backTo pos (starEach es X.env)).any (·.1) = false := by rfl) : PE X (.Call (.Name x p) (e :: es) [] pos) (tm X.K X.mg WW (wB bf ws)) :=
  PE.conv (pe_callB hc hg hm hv ha hn hdb he hpl) (tCB_of h)
theorem se_callTy {bf : BPf} {r : List V → Hp → VK → Prop} {id : String} {x : Str} {p : Pos} (hc : CallR X (.type id) r) (h : PrB X.K X.mg WW bf r) (hg : Gl X x) (hm : X.mg x = none) (hv : bootBuiltins x = some (.type id)) (ha : PA X (e :: es) (tma X.K X.mg WW ws)) (hn : x ≠ "__name__" := by decide) (hdb : (x == ("__debug__" : Str)) = false := by decide)
    (he : starEach (e :: es) X.env = (false, eval e X.env) :: starEach es X.env := by rfl) (hpl : (backTo pos (starEach es X.env)).any (·.1) = false := by rfl) : PE X (.Call (.Name x p) (e :: es) [] pos) (tm X.K X.mg WW (wB bf ws)) :=
  PE.conv (pe_callTy hc hg hm hv ha hn hdb he hpl) (tCB_of h)
end

/-! ### statements -/
def wsNil : WS := fun ρ S D _ => D.nx ρ S
def wsSeq (a b : WS) : WS := fun ρ S D E => a ρ S ⟨fun ρ1 S1 => b ρ1 S1 D E, D.rt⟩ E
def wsSet (i : Nat) (w : W) : WS := fun ρ S D E => w ρ S (fun d S1 => D.nx (ρ.set i (some d)) S1) E
def wsExpr (w : W) : WS := fun ρ S D E => w ρ S (fun _ S1 => D.nx ρ S1) E
def wsRet (w : W) : WS := fun ρ S D E => w ρ S D.rt E
def wsRetN : WS := fun _ S D _ => D.rt .non S
def wsIf (c : W) (a b : WS) : WS := fun ρ S D E => c ρ S (fun d S1 => ∃ k, d = .bl k ∧ if k = true then a ρ S1 D E else b ρ S1 D E) E
/-- a target -/
abbrev Tg := D → DEnv → (DEnv → Prop) → Prop
def tN (i : Nat) : Tg := fun d ρ k => k (ρ.set i (some d))
def setAll : DEnv → List Nat → List D → DEnv
  | ρ, i :: is, d :: ds => setAll (ρ.set i (some d)) is ds
  | ρ, _, _ => ρ
def tT (is : List Nat) : Tg := fun d ρ k => ∃ ds, d = .tup ds ∧ ds.length = is.length ∧ k (setAll ρ is ds)
def wsAsg (b : Tg) (w : W) : WS := fun ρ S D E => w ρ S (fun d S1 => b d ρ fun ρ1 => D.nx ρ1 S1) E
/-- o[i] = e for a list -/
def wsSub (o i e : W) : WS := fun ρ S D E => e ρ S (fun d S1 => o ρ S1 (fun x S2 => i ρ S2 (fun y S3 => ∃ n k xs j, x = .ref n ∧ y = .int k ∧ S3[n]? = some (.lst xs) ∧ ixN xs.length k = some j ∧ D.nx ρ (S3.set n (.lst (xs.set j d)))) E) E) E
def loopG (st : Store → Prop) (b : Tg) (body : WS) : List D → WS
  | [], ρ, S, D, _ => st S ∧ D.nx ρ S
  | x :: xs, ρ, S, D, E => st S ∧ b x ρ fun ρ1 => body ρ1 S ⟨fun ρ2 S2 => loopG st b body xs ρ2 S2 D E, D.rt⟩ E
def atL (n : Nat) (ds : List D) (S : Store) : Prop := S[n]? = some (.lst ds)
/-- for x in a list -/
def wsFor (b : Tg) (w : W) (body : WS) : WS := fun ρ S D E => w ρ S (fun d S1 => ∃ n ds, d = .ref n ∧ atL n ds S1 ∧ loopG (atL n ds) b body ds ρ S1 D E) E
/-- for x in a tuple -/
def wsForT (b : Tg) (w : W) (body : WS) : WS := fun ρ S D E => w ρ S (fun d S1 => ∃ ds, d = .tup ds ∧ loopG (fun _ => True) b body ds ρ S1 D E) E
def rangeD (lo : Int) (n : Nat) : List D := (List.range n).map fun k => .int (lo + (k : Nat))
def wsForR1 (b : Tg) (w : W) (body : WS) : WS := fun ρ S D E => w ρ S (fun d S1 => ∃ j : Int, d = .int j ∧ -(2 ^ 62) ≤ j ∧ j < 2 ^ 62 ∧ loopG (fun _ => True) b body (rangeD 0 j.toNat) ρ S1 D E) E
def wsForR2 (b : Tg) (w u : W) (body : WS) : WS := fun ρ S D E => w ρ S (fun d S1 => u ρ S1 (fun e S2 => ∃ i j : Int, d = .int i ∧ e = .int j ∧ (-(2 ^ 62) ≤ i ∧ i < 2 ^ 62 ∧ -(2 ^ 62) ≤ j ∧ j < 2 ^ 62) ∧ loopG (fun _ => True) b body (rangeD i (j - i).toNat) ρ S2 D E) E) E
def whileN : Nat → W → WS → WS
  | 0, _, _ => fun _ _ _ _ => False
  | n + 1, c, body => fun ρ S D E => c ρ S (fun d S1 => ∃ k, d = .bl k ∧ if k = true then body ρ S1 ⟨fun ρ2 S2 => whileN n c body ρ2 S2 D E, D.rt⟩ E else D.nx ρ S1) E
def wsWhile (c : W) (body : WS) : WS := fun ρ S D E => ∃ n, whileN n c body ρ S D E

def tsA (K : PySem.W.Frag) (mg : Str → Option Value) (WW : WX) (φ : List Addr) (ρ : DEnv) (S : Store) (w : WS) (D : Ends) (σ : L2.St) (H : Hp) : Prop :=
  RS K mg φ S H ∧ RE K φ H ρ σ ∧ ∃ (D' : DEnds) (E' : PX), w ρ S D' E' ∧
    (∀ ρ' S', D'.nx ρ' S' → ∀ σ' φ' H', Ext φ H φ' H' → RS K mg φ' S' H' → RE K φ' H' ρ' σ' → D.nx σ' H') ∧
    (∀ d S', D'.rt d S' → ∀ v φ' H', Ext φ H φ' H' → RS K mg φ' S' H' → RD K φ' H' d v → D.rt v H') ∧
    (∀ c ρ' S', E' c ρ' S' → ∀ u φ' H' σ', Ext φ H φ' H' → RS K mg φ' S' H' → RE K φ' H' ρ' σ' → mg c = some u → WW u none σ' H')
def tsm (K : PySem.W.Frag) (mg : Str → Option Value) (WW : WX) (w : WS) : TS := fun D σ H => ∃ φ ρ S, tsA K mg WW φ ρ S w D σ H
section
variable {K : PySem.W.Frag} {mg : Str → Option Value} {WW : WX}
/-- an expression ahead of what follows -/
theorem ts_ex {w : W} {k : GS.D → WS} {φ : List Addr} {ρ : DEnv} {S : Store} {D : Ends} {σ : L2.St} {H : Hp} (q : tsA K mg WW φ ρ S (fun ρ S D E => w ρ S (fun d S1 => k d ρ S1 D E) E) D σ H) {R : VK}
    (h : ∀ d v φ1 S1 H1, Ext φ H φ1 H1 → RD K φ1 H1 d v → tsA K mg WW φ1 ρ S1 (k d) D σ H1 → R v H1) : tm K mg WW w σ H R := by
  obtain ⟨rs, re, D', E', hw, hn, hr, hx⟩ := q
  refine ⟨φ, ρ, S, rs, re, _, E', hw, fun d S1 h1 v φ1 H1 e1 rs1 rd1 => ?_, hx⟩
  exact h d v φ1 S1 H1 e1 rd1 ⟨rs1, re.mono e1, D', E', h1, fun ρ2 S2 a σ2 φ2 H2 x => hn ρ2 S2 a σ2 φ2 H2 (e1.trans x), fun d S2 a v φ2 H2 x => hr d S2 a v φ2 H2 (e1.trans x),
    fun c ρ2 S2 a u φ2 H2 σ2 x => hx c ρ2 S2 a u φ2 H2 σ2 (e1.trans x)⟩
theorem ts_ex0 {w : W} {k : GS.D → WS} {D : Ends} {σ : L2.St} {H : Hp} (q : tsm K mg WW (fun ρ S D E => w ρ S (fun d S1 => k d ρ S1 D E) E) D σ H) {R : VK}
    (h : ∀ d v φ1 ρ S1 H1, RD K φ1 H1 d v → tsA K mg WW φ1 ρ S1 (k d) D σ H1 → R v H1) : tm K mg WW w σ H R := by
  obtain ⟨φ, ρ, S, q⟩ := q
  exact ts_ex q fun d v φ1 S1 H1 _ rd q => h d v φ1 ρ S1 H1 rd q
end
/-- a target's rule -/
structure SG (X : Cx) (tg : Expr) (b : Tg) (g : TG) : Prop where
  pg : PG X tg g
  of : ∀ φ ρ σ H d v (k : DEnv → Prop) (Q : L2.St → Hp → Prop), RE X.K φ H ρ σ → RD X.K φ H d v → b d ρ k → (∀ ρ' σ', k ρ' → RE X.K φ H ρ' σ' → Q σ' H) → g v σ H Q
section
variable {X : Cx} {WW : WX} {a b c e : Expr} {es rest : List Expr} {pos pos' : Pos} {wa wb wc w : W} {ws : List W} {st : Stmt} {sts body : List Stmt} {u v : WS}
theorem ss_nil : PSs X [] (tsm X.K X.mg WW wsNil) := PSs.conv pss_nil fun D σ H ⟨φ, ρ, S, rs, re, D', E', hw, hn, hr, hx⟩ => hn ρ S hw σ φ H Ext.refl rs re
theorem ss_cons (h1 : PS X st (tsm X.K X.mg WW u)) (h2 : PSs X sts (tsm X.K X.mg WW v)) : PSs X (st :: sts) (tsm X.K X.mg WW (wsSeq u v)) := by
  refine PSs.conv (pss_cons h1 h2) fun D σ H ⟨φ, ρ, S, rs, re, D', E', hw, hn, hr, hx⟩ => ?_
  refine ⟨φ, ρ, S, rs, re, _, E', hw, fun ρ1 S1 h1 σ1 φ1 H1 e1 rs1 re1 => ?_, hr, hx⟩
  exact ⟨φ1, ρ1, S1, rs1, re1, D', E', h1, fun ρ2 S2 a σ2 φ2 H2 x => hn ρ2 S2 a σ2 φ2 H2 (e1.trans x), fun d S2 a v φ2 H2 x => hr d S2 a v φ2 H2 (e1.trans x),
    fun c ρ2 S2 a u φ2 H2 σ2 x => hx c ρ2 S2 a u φ2 H2 σ2 (e1.trans x)⟩
theorem ss_one (h1 : PS X st (tsm X.K X.mg WW u)) : PSs X [st] (tsm X.K X.mg WW u) := pss_one h1
theorem sg_name {i : Nat} {x : Str} {p : Pos} (hN : X.N.Nodup) (hi : X.N[i]? = some x) (hx : Loc X.env.scope x) (hf : X.fn x = true ∨ X.env.scope.names.lookup x = some .local := by first | exact .inl rfl | exact .inr rfl | assumption) : SG X (.Name x p) (tN i) (gName i) :=
  ⟨pg_name hN hi hx hf, fun φ ρ σ H d v k Q re rd h q => q _ _ h (re.set rd i)⟩
def gNames : List Nat → TGs
  | [] => gNil
  | i :: is => gCons (gName i) (gNames is)
theorem gNames_of {K : PySem.W.Frag} {φ : List Addr} {H : Hp} {Q : L2.St → Hp → Prop} {k : DEnv → Prop} (q : ∀ ρ' σ', k ρ' → RE K φ H ρ' σ' → Q σ' H) : ∀ {is : List Nat} {ds : List D} {vs : List V} {ρ : DEnv} {σ : L2.St}, RE K φ H ρ σ → RDs K φ H ds vs → ds.length = is.length → k (setAll ρ is ds) → gNames is vs σ H Q
  | [], [], vs, ρ, σ, re, r, _, hk => by
    have : vs = [] := by simpa [RDs] using r
    subst this
    exact ⟨rfl, q _ _ hk re⟩
  | [], _ :: _, _, _, _, _, _, hl, _ => by simp at hl
  | _ :: _, [], _, _, _, _, _, hl, _ => by simp at hl
  | i :: is, d :: ds, vs, ρ, σ, re, r, hl, hk => by
    obtain ⟨v, r', rfl, h1, h2⟩ := r.inv
    exact ⟨v, r', rfl, gNames_of q (re.set h1 i) h2 (by simpa using hl) hk⟩
theorem sg_tup {is : List Nat} {k n : Nat} {p : Pos} (hc : X.calm = true) (h : PGs X es (gNames is)) (hl : is.length = n := by rfl)
    (hn : (assignEach es X.env).length = n := by rfl) (hst : (assignEach es X.env).findIdx? (·.1) = none := by rfl) : SG X (.Tuple es k p) (tT is) (gTup X.K n (gNames is)) := by
  refine ⟨pg_tup hc h hn hst, fun φ ρ σ H d v k Q re rd ⟨ds, e, l, hk⟩ q => ?_⟩
  subst e
  simp only [RD] at rd
  obtain ⟨a, vs, rfl, ha, r⟩ := rd
  exact ⟨a, vs, rfl, SqT.of ha, by rw [← r.length, l, hl], gNames_of q re r l hk⟩
theorem ss_set {i : Nat} {x : Str} {p : Pos} (hN : X.N.Nodup) (hi : X.N[i]? = some x) (hx : Loc X.env.scope x) (he : PE X e (tm X.K X.mg WW w)) (hs : swapsWith e (some (.Name x p)) pos.line X.env = pure false := by rfl)
    (hf : X.fn x = true ∨ X.env.scope.names.lookup x = some .local := by first | exact .inl rfl | exact .inr rfl | assumption) : PS X (.Assign [.Name x p] e pos) (tsm X.K X.mg WW (wsSet i w)) :=
  PS.conv (ps_set hN hi hx he hs hf) fun D σ H q => ts_ex0 (k := fun d => fun ρ S D E => D.nx (ρ.set i (some d)) S) q fun d v φ1 ρ S1 H1 rd ⟨rs, re, D', E', hw, hn, hr, hx⟩ => hn _ _ hw _ _ _ Ext.refl rs (re.set rd i)
theorem ss_asg {b : Tg} {g : TG} {tg : Expr} (hg : SG X tg b g) (he : PE X e (tm X.K X.mg WW w)) (hs : swapsWithSole [tg] e pos.line X.env = pure false := by rfl) (hw : swappedStores [tg] e X.env = pure none := by rfl)
    (h1 : (assignEach [tg] X.env).map (·.2) = [assign tg X.env] := by rfl) : PS X (.Assign [tg] e pos) (tsm X.K X.mg WW (wsAsg b w)) :=
  PS.conv (ps_asg he hg.pg hs hw h1) fun D σ H q => ts_ex0 (k := fun d => fun ρ S D E => b d ρ fun ρ1 => D.nx ρ1 S) q fun d v φ1 ρ S1 H1 rd ⟨rs, re, D', E', hw, hn, hr, hx⟩ =>
    hg.of φ1 ρ σ H1 d v _ _ re rd hw fun ρ' σ' h re' => hn _ _ h _ _ _ Ext.refl rs re'
theorem ss_expr (he : PE X e (tm X.K X.mg WW w)) (hs : swapsWith e none pos.line X.env = pure false := by rfl) : PS X (.Expr e pos) (tsm X.K X.mg WW (wsExpr w)) :=
  PS.conv (ps_expr he hs) fun D σ H q => ts_ex0 (k := fun d => fun ρ S D E => D.nx ρ S) q fun d v φ1 ρ S1 H1 rd ⟨rs, re, D', E', hw, hn, hr, hx⟩ => hn _ _ hw _ _ _ Ext.refl rs re
theorem ss_ret (he : PE X e (tm X.K X.mg WW w)) : PS X (.Return (some e) pos) (tsm X.K X.mg WW (wsRet w)) :=
  PS.conv (ps_ret he) fun D σ H q => ts_ex0 (k := fun d => fun ρ S D E => D.rt d S) q fun d v φ1 ρ S1 H1 rd ⟨rs, re, D', E', hw, hn, hr, hx⟩ => hr _ _ hw _ _ _ Ext.refl rs rd
theorem ss_retN : PS X (.Return none pos) (tsm X.K X.mg WW wsRetN) := PS.conv ps_retN fun D σ H ⟨φ, ρ, S, rs, re, D', E', hw, hn, hr, hx⟩ => hr _ _ hw _ _ _ Ext.refl rs RD.non
theorem ss_if {b : List Stmt} (hc : PT X c (ttm X.K X.mg WW w)) (ha : PSs X body (tsm X.K X.mg WW u)) (hb : PSs X b (tsm X.K X.mg WW v)) : PS X (.If c body b pos) (tsm X.K X.mg WW (wsIf w u v)) :=
  PS.conv (ps_if hc ha hb) fun D σ H q => ts_ex0 (k := fun d => fun ρ S D E => ∃ k, d = .bl k ∧ if k = true then u ρ S D E else v ρ S D E) q fun d x φ1 ρ S1 H1 rd ⟨rs, re, D', E', ⟨k, e, hw⟩, hn, hr, hx⟩ => by
    subst e
    refine ⟨k, rd.bl_inv, ?_⟩
    cases k with
    | true => exact ⟨φ1, ρ, S1, rs, re, D', E', hw, hn, hr, hx⟩
    | false => exact ⟨φ1, ρ, S1, rs, re, D', E', hw, hn, hr, hx⟩
theorem tsA.ex {K : PySem.W.Frag} {mg : Str → Option Value} {φ : List Addr} {ρ : DEnv} {S : Store} {D : Ends} {σ : L2.St} {H : Hp} {w : W} {k : GS.D → WS} (q : tsA K mg WW φ ρ S (fun ρ S D E => w ρ S (fun d S1 => k d ρ S1 D E) E) D σ H) {R : VK}
    (h : ∀ d v φ1 S1 H1, Ext φ H φ1 H1 → RD K φ1 H1 d v → tsA K mg WW φ1 ρ S1 (k d) D σ H1 → R v H1) : tm K mg WW w σ H R := ts_ex q h
theorem ss_sub {o i : Expr} {p : Pos} {wo wi : W} (ho : PE X o (tm X.K X.mg WW wo)) (hi : PE X i (tm X.K X.mg WW wi)) (he : PE X e (tm X.K X.mg WW w))
    (ha : ∀ v, assign (.Subscript o i p) X.env v = (do
      let ov ← holding [v] (eval o X.env)
      let iv ← holding [v, ov] (eval i X.env)
      standAt p
      holding [v, ov, iv] (setItem ov iv v)
      release [v, ov, iv] []) := by intro _; rfl)
    (hs : swapsWithSole [.Subscript o i p] e pos.line X.env = pure false := by rfl) (hw : swappedStores [.Subscript o i p] e X.env = pure none := by rfl)
    (h1 : (assignEach [.Subscript o i p] X.env).map (·.2) = [assign (.Subscript o i p) X.env] := by rfl) : PS X (.Assign [.Subscript o i p] e pos) (tsm X.K X.mg WW (wsSub wo wi w)) := by
  refine PS.conv (ps_asg he (pg_sub ho hi set_list ha) hs hw h1) fun D σ H q => ?_
  refine ts_ex0 (k := fun d => fun ρ S1 D E => wo ρ S1 (fun x S2 => wi ρ S2 (fun y S3 => ∃ n k xs j, x = .ref n ∧ y = .int k ∧ S3[n]? = some (.lst xs) ∧ ixN xs.length k = some j ∧ D.nx ρ (S3.set n (.lst (xs.set j d)))) E) E) q fun d v φ1 ρ S1 H1 rd q1 => ?_
  refine tsA.ex (k := fun x => fun ρ S2 D E => wi ρ S2 (fun y S3 => ∃ n k xs j, x = .ref n ∧ y = .int k ∧ S3[n]? = some (.lst xs) ∧ ixN xs.length k = some j ∧ D.nx ρ (S3.set n (.lst (xs.set j d)))) E) q1 fun x xv φ2 S2 H2 e2 rx q2 => ?_
  refine tsA.ex (k := fun y => fun ρ S3 D E => ∃ n k xs j, x = .ref n ∧ y = .int k ∧ S3[n]? = some (.lst xs) ∧ ixN xs.length k = some j ∧ D.nx ρ (S3.set n (.lst (xs.set j d)))) q2 fun y yv φ3 S3 H3 e3 ry ⟨rs, re, D', E', ⟨n, k, xs, j, ex1, ey1, hl, hj, hw⟩, hn, hr, hx⟩ => ?_
  subst ex1 ey1
  obtain ⟨a, vs, rfl, ha, hH, r, z⟩ := rs.lst hl (rx.mono e3)
  have ex := Ext.write (o := .lst (vs.set j v)) rs (List.mem_of_getElem? ha)
  have rv := (rd.mono e2).mono e3
  refine ⟨a, vs, k, j, rfl, ry.int_inv, hH, by rw [← r.length]; exact hj, ?_⟩
  exact hn _ _ hw _ _ _ ex (rs.write ha ⟨_, upd_same, (RDs.set rv j r).mono ex, by simpa using z⟩) (re.mono ex)

/-! ### loops -/
theorem loop_at {K : PySem.W.Frag} {mg : Str → Option Value} {φ : List Addr} {ρ : DEnv} {S : Store} {D : Ends} {σ : L2.St} {H : Hp} {stb : Store → Prop} {b : Tg} {bd : WS} {x : GS.D} {xs : List GS.D} {g : TG} {tg : Expr} (hg : SG X tg b g) {y : V}
    (q : tsA X.K X.mg WW φ ρ S (loopG stb b bd (x :: xs)) D σ H) (r : RD X.K φ H x y) {N : L2.St → Hp → Prop} (hN : ∀ σ' H' φ' ρ' S', Ext φ H φ' H' → tsA X.K X.mg WW φ' ρ' S' (loopG stb b bd xs) D σ' H' → N σ' H') :
    g y σ H fun σ2 H2 => tsm X.K X.mg WW bd { D with nx := N, ct := N, bk := D.nx } σ2 H2 := by
  obtain ⟨rs, re, D', E', ⟨hs, hw⟩, hn, hr, hx⟩ := q
  refine hg.of φ ρ σ H x y _ _ re r hw fun ρ1 σ1 h1 re1 => ?_
  refine ⟨φ, ρ1, S, rs, re1, _, E', h1, fun ρ2 S2 h2 σ2 φ2 H2 e2 rs2 re2 => ?_, hr, hx⟩
  exact hN σ2 H2 φ2 ρ2 S2 e2 ⟨rs2, re2, D', E', h2, fun ρ3 S3 a σ3 φ3 H3 x => hn ρ3 S3 a σ3 φ3 H3 (e2.trans x), fun d S3 a v φ3 H3 x => hr d S3 a v φ3 H3 (e2.trans x),
    fun c ρ3 S3 a u φ3 H3 σ3 x => hx c ρ3 S3 a u φ3 H3 σ3 (e2.trans x)⟩
theorem loop_end {φ : List Addr} {ρ : DEnv} {S : Store} {D : Ends} {σ : L2.St} {H : Hp} {stb : Store → Prop} {b : Tg} {bd : WS} (q : tsA X.K X.mg WW φ ρ S (loopG stb b bd []) D σ H) : D.nx σ H := by
  obtain ⟨rs, re, D', E', ⟨hs, hw⟩, hn, hr, hx⟩ := q
  exact hn ρ S hw σ φ H Ext.refl rs re
theorem loop_st {K : PySem.W.Frag} {mg : Str → Option Value} {φ : List Addr} {ρ : DEnv} {S : Store} {D : Ends} {σ : L2.St} {H : Hp} {stb : Store → Prop} {b : Tg} {bd : WS} : ∀ {xs : List GS.D}, tsA K mg WW φ ρ S (loopG stb b bd xs) D σ H → RS K mg φ S H ∧ stb S
  | [], ⟨rs, _, _, _, ⟨hs, _⟩, _⟩ => ⟨rs, hs⟩
  | _ :: _, ⟨rs, _, _, _, ⟨hs, _⟩, _⟩ => ⟨rs, hs⟩
theorem drop_cons {α : Type} {xs : List α} {i : Nat} {x : α} (h : xs[i]? = some x) : xs.drop i = x :: xs.drop (i + 1) := by
  obtain ⟨hi, e⟩ := List.getElem?_eq_some_iff.mp h
  rw [List.drop_eq_getElem_cons hi, e]
theorem ss_for {b : Tg} {g : TG} {tg : Expr} (hp : PassesOwn (model X.prog X.w) X.A X.env X.xe) (hc : X.calm = true) (hg : SG X tg b g) (he : PE X e (tm X.K X.mg WW w)) (hb : PSs X body (tsm X.K X.mg WW u))
    (hs : ∀ x, foldedSetIterable e X.env x = pure x := by intro _; rfl) : PS X (.For tg e body [] pos) (tsm X.K X.mg WW (wsFor b w u)) := by
  refine PS.conv (ps_for hp hc (pi_list he) hg.pg hb hs) fun D σ H q => ?_
  refine ts_ex0 (k := fun d => fun ρ S D E => ∃ n ds, d = .ref n ∧ atL n ds S ∧ loopG (atL n ds) b u ds ρ S D E) q fun d v φ1 ρ S1 H1 rd ⟨rs, re, D', E', ⟨n, ds, e1, hl, hw⟩, hn, hr, hx⟩ => ?_
  subst e1
  obtain ⟨a, vs, rfl, ha, hH, r, z⟩ := rs.lst hl rd
  refine ⟨a, rfl, ⟨vs, SqL.of hH⟩, ?_⟩
  refine ⟨fun i m σ' H' => m = ds.length - i ∧ ∃ φ' ρ' S', Ext φ1 H1 φ' H' ∧ tsA X.K X.mg WW φ' ρ' S' (loopG (atL n ds) b u (ds.drop i)) D σ' H', ⟨_, rfl, φ1, ρ, S1, Ext.refl, rs, re, D', E', by simpa using hw, hn, hr, hx⟩, ?_⟩
  rintro i m σ' H' ⟨rfl, φ', ρ', S', e', q'⟩
  obtain ⟨rs', hs'⟩ := loop_st q'
  obtain ⟨a2, vs2, e2, ha2, hH2, r2, _⟩ := rs'.lst hs' (rd.mono e')
  cases e2
  by_cases hi : i < ds.length
  · have hd : ds[i]? = some ds[i] := List.getElem?_eq_getElem hi
    obtain ⟨y, hy, ry⟩ := r2.get hd
    refine .inr ⟨⟨vs2, y, SqL.of hH2, hy⟩, fun σ2 H2 => ∃ φ2 ρ2 S2, Ext φ1 H1 φ2 H2 ∧ tsA X.K X.mg WW φ2 ρ2 S2 (loopG (atL n ds) b u (ds.drop (i + 1))) D σ2 H2, fun σ2 H2 ⟨φ2, ρ2, S2, e2, q2⟩ => ⟨ds.length - (i + 1), by omega, rfl, φ2, ρ2, S2, e2, q2⟩, fun x H2 hx2 => ?_⟩
    obtain ⟨rfl, fx⟩ := hx2
    have ex : x = y := Option.some.inj ((fx _ (SqL.of hH2)).symm.trans hy)
    subst ex
    rw [drop_cons hd] at q'
    exact loop_at (K := X.K) (mg := X.mg) hg q' ry fun σ2 H2 φ2 ρ2 S2 e2 q2 => ⟨φ2, ρ2, S2, e'.trans e2, q2⟩
  · refine .inl ⟨⟨vs2, SqL.of hH2, by rw [← r2.length]; omega⟩, ?_⟩
    rw [List.drop_of_length_le (by omega)] at q'
    exact loop_end q'
theorem ss_forT {b : Tg} {g : TG} {tg : Expr} (hp : PassesOwn (model X.prog X.w) X.A X.env X.xe) (hc : X.calm = true) (hg : SG X tg b g) (he : PE X e (tm X.K X.mg WW w)) (hb : PSs X body (tsm X.K X.mg WW u))
    (hs : ∀ x, foldedSetIterable e X.env x = pure x := by intro _; rfl) : PS X (.For tg e body [] pos) (tsm X.K X.mg WW (wsForT b w u)) := by
  refine PS.conv (ps_for hp hc (pi_tup he) hg.pg hb hs) fun D σ H q => ?_
  refine ts_ex0 (k := fun d => fun ρ S D E => ∃ ds, d = .tup ds ∧ loopG (fun _ => True) b u ds ρ S D E) q fun d v φ1 ρ S1 H1 rd ⟨rs, re, D', E', ⟨ds, e1, hw⟩, hn, hr, hx⟩ => ?_
  subst e1
  simp only [RD] at rd
  obtain ⟨a, vs, rfl, hH, r⟩ := rd
  refine ⟨a, rfl, ⟨vs, SqT.of hH⟩, ?_⟩
  refine for_tup (xs := vs) (fun i σ' H' => ∃ φ' ρ' S', Ext φ1 H1 φ' H' ∧ tsA X.K X.mg WW φ' ρ' S' (loopG (fun _ => True) b u (ds.drop i)) D σ' H') ⟨φ1, ρ, S1, Ext.refl, rs, re, D', E', by simpa using hw, hn, hr, hx⟩ ?_ ?_ ?_
  · rintro i σ' H' _ ⟨φ', ρ', S', e', q'⟩
    exact SqT.of (e'.im _ _ hH fun z => z)
  · rintro i x σ' H' hi ⟨φ', ρ', S', e', q'⟩
    obtain ⟨d, hd, rx⟩ := r.getV hi
    rw [drop_cons hd] at q'
    exact loop_at (K := X.K) (mg := X.mg) hg q' (rx.mono e') fun σ2 H2 φ2 ρ2 S2 e2 q2 => ⟨φ2, ρ2, S2, e'.trans e2, q2⟩
  · rintro σ' H' ⟨φ', ρ', S', e', q'⟩
    rw [← r.length, List.drop_length] at q'
    exact loop_end q'
theorem rangeD_get {lo : Int} {n i : Nat} (h : i < n) : (rangeD lo n)[i]? = some (.int (lo + (i : Nat))) := by
  unfold rangeD
  rw [List.getElem?_map, List.getElem?_range h]; rfl
theorem rangeD_length (lo : Int) (n : Nat) : (rangeD lo n).length = n := by
  unfold rangeD; simp
theorem range_loop {φ1 : List Addr} {ρ : DEnv} {S1 : Store} {D : Ends} {σ : L2.St} {H1 : Hp} {b : Tg} {g : TG} {tg : Expr} {lo : Int} {n : Nat} (hg : SG X tg b g) (q : tsA X.K X.mg WW φ1 ρ S1 (loopG (fun _ => True) b u (rangeD lo n)) D σ H1) :
    ∃ W : Nat → Nat → L2.St → Hp → Prop, (∃ m, W 0 m σ H1) ∧ ∀ i m σ H, W i m σ H →
      ((Itr lo n).stop i H ∧ D.nx σ H) ∨ ((Itr lo n).go i H ∧ ∃ N : L2.St → Hp → Prop, (∀ σ' H', N σ' H' → ∃ m', m' < m ∧ W (i + 1) m' σ' H') ∧ ∀ x H', (Itr lo n).yld i H x H' → g x σ H' fun σ2 H2 => tsm X.K X.mg WW u { D with nx := N, ct := N, bk := D.nx } σ2 H2) := by
  refine for_range (fun i σ' H' => ∃ φ' ρ' S', Ext φ1 H1 φ' H' ∧ tsA X.K X.mg WW φ' ρ' S' (loopG (fun _ => True) b u ((rangeD lo n).drop i)) D σ' H') ⟨φ1, ρ, S1, Ext.refl, by simpa using q⟩ ?_ ?_
  · rintro i σ' H' hi ⟨φ', ρ', S', e', q'⟩
    rw [drop_cons (rangeD_get hi)] at q'
    exact loop_at (K := X.K) (mg := X.mg) hg q' RD.int fun σ2 H2 φ2 ρ2 S2 e2 q2 => ⟨φ2, ρ2, S2, e'.trans e2, q2⟩
  · rintro σ' H' ⟨φ', ρ', S', e', q'⟩
    rw [List.drop_of_length_le (Nat.le_of_eq (rangeD_length lo n))] at q'
    exact loop_end q'
theorem ss_forR1 {b : Tg} {g : TG} {tg : Expr} {p p2 : Pos} (hp : PassesOwn (model X.prog X.w) X.A X.env X.xe) (hc : X.calm = true) (hg : SG X tg b g) (hgl : Gl X "range") (hm : X.mg "range" = none) (he : PE X e (tm X.K X.mg WW w)) (hb : PSs X body (tsm X.K X.mg WW u))
    (hst : starEach [e] X.env = [(false, eval e X.env)] := by rfl) (hst2 : starEach [e] X.env = (false, eval e X.env) :: starEach [] X.env := by rfl) (hs : ∀ x, foldedSetIterable (.Call (.Name "range" p) [e] [] p2) X.env x = pure x := by intro _; rfl) : PS X (.For tg (.Call (.Name "range" p) [e] [] p2) body [] pos) (tsm X.K X.mg WW (wsForR1 b w u)) := by
  refine PS.conv (ps_for hp hc (pi_range1 hgl hm (pa_cons he pa_nil hst2) hst) hg.pg hb hs) fun D σ H q => ?_
  refine ts_ex0 (k := fun d => fun ρ S D E => ∃ j : Int, d = .int j ∧ -(2 ^ 62) ≤ j ∧ j < 2 ^ 62 ∧ loopG (fun _ => True) b u (rangeD 0 j.toNat) ρ S D E) q fun d v φ1 ρ S1 H1 rd ⟨rs, re, D', E', ⟨j, e1, h1, h2, hw⟩, hn, hr, hx⟩ => ?_
  subst e1
  rw [rd.int_inv]
  exact ⟨j, rfl, h1, h2, range_loop hg ⟨rs, re, D', E', hw, hn, hr, hx⟩⟩
theorem ss_forR2 {b : Tg} {g : TG} {tg : Expr} {p p2 : Pos} {wv : W} (hp : PassesOwn (model X.prog X.w) X.A X.env X.xe) (hc : X.calm = true) (hg : SG X tg b g) (hgl : Gl X "range") (hm : X.mg "range" = none) (he : PE X e (tm X.K X.mg WW w)) (ha : PE X a (tm X.K X.mg WW wv)) (hb : PSs X body (tsm X.K X.mg WW u))
    (hst : starEach [e, a] X.env = [(false, eval e X.env), (false, eval a X.env)] := by rfl) (hst2 : starEach [a] X.env = [(false, eval a X.env)] := by rfl)
    (hst3 : starEach [e, a] X.env = (false, eval e X.env) :: starEach [a] X.env := by rfl) (hst4 : starEach [a] X.env = (false, eval a X.env) :: starEach [] X.env := by rfl) (hs : ∀ x, foldedSetIterable (.Call (.Name "range" p) [e, a] [] p2) X.env x = pure x := by intro _; rfl) :
    PS X (.For tg (.Call (.Name "range" p) [e, a] [] p2) body [] pos) (tsm X.K X.mg WW (wsForR2 b w wv u)) := by
  refine PS.conv (ps_for hp hc (pi_range2 hgl hm (pa_cons he (pa_cons ha pa_nil hst4) hst3) hst hst2) hg.pg hb hs) fun D σ H q => ?_
  refine ts_ex0 (k := fun d => fun ρ S1 D E => wv ρ S1 (fun e S2 => ∃ i j : Int, d = .int i ∧ e = .int j ∧ (-(2 ^ 62) ≤ i ∧ i < 2 ^ 62 ∧ -(2 ^ 62) ≤ j ∧ j < 2 ^ 62) ∧ loopG (fun _ => True) b u (rangeD i (j - i).toNat) ρ S2 D E) E) q fun d v φ1 ρ S1 H1 rd q1 => ?_
  refine tsA.ex (k := fun e => fun ρ S2 D E => ∃ i j : Int, d = .int i ∧ e = .int j ∧ (-(2 ^ 62) ≤ i ∧ i < 2 ^ 62 ∧ -(2 ^ 62) ≤ j ∧ j < 2 ^ 62) ∧ loopG (fun _ => True) b u (rangeD i (j - i).toNat) ρ S2 D E) q1 fun d2 v2 φ2 S2 H2 e2 rd2 ⟨rs, re, D', E', ⟨i, j, e1, e2, h1, hw⟩, hn, hr, hx⟩ => ?_
  subst e1 e2
  rw [rd.int_inv, rd2.int_inv]
  exact ⟨i, j, rfl, h1, range_loop hg ⟨rs, re, D', E', hw, hn, hr, hx⟩⟩
theorem ss_while (hp : PassesOwn (model X.prog X.w) X.A X.env X.xe) (hc : PT X c (ttm X.K X.mg WW w)) (hb : PSs X body (tsm X.K X.mg WW u)) : PS X (.While c body [] pos) (tsm X.K X.mg WW (wsWhile w u)) := by
  refine PS.conv (ps_while hp hc hb) fun D σ H ⟨φ, ρ, S, rs, re, D', E', ⟨n, hw⟩, hn, hr, hx⟩ => ?_
  refine ⟨fun m σ1 H1 => ∃ φ1 ρ1 S1, tsA X.K X.mg WW φ1 ρ1 S1 (whileN m w u) D σ1 H1, ⟨n, φ, ρ, S, rs, re, D', E', hw, hn, hr, hx⟩, ?_⟩
  rintro m σ1 H1 ⟨φ1, ρ1, S1, q1⟩
  cases m with
  | zero => obtain ⟨_, _, _, _, z, _⟩ := q1; exact z.elim
  | succ m =>
    refine tsA.ex (k := fun d => fun ρ S D E => ∃ k, d = .bl k ∧ if k = true then u ρ S ⟨fun ρ2 S2 => whileN m w u ρ2 S2 D E, D.rt⟩ E else D.nx ρ S) q1 fun d v φ2 S2 H2 e2 rd ⟨rs, re, D', E', ⟨k, e, hw⟩, hn, hr, hx⟩ => ?_
    subst e
    refine ⟨k, rd.bl_inv, ?_⟩
    cases k with
    | true =>
      refine ⟨fun σ3 H3 => ∃ φ3 ρ3 S3, tsA X.K X.mg WW φ3 ρ3 S3 (whileN m w u) D σ3 H3, fun σ3 H3 h3 => ⟨m, Nat.lt_succ_self m, h3⟩, ?_⟩
      refine ⟨φ2, ρ1, S2, rs, re, _, E', hw, fun ρ3 S3 h3 σ3 φ3 H3 e3 rs3 re3 => ?_, hr, hx⟩
      exact ⟨φ3, ρ3, S3, rs3, re3, D', E', h3, fun ρ4 S4 a σ4 φ4 H4 x => hn ρ4 S4 a σ4 φ4 H4 (e3.trans x), fun d S4 a v φ4 H4 x => hr d S4 a v φ4 H4 (e3.trans x), fun c ρ4 S4 a u φ4 H4 σ4 x => hx c ρ4 S4 a u φ4 H4 σ4 (e3.trans x)⟩
    | false => exact hn _ _ hw _ _ _ Ext.refl rs re
end

/-! ### what isn't reached any more is left out behind a call -/
mutual
def Cl (n : Nat) : D → Prop
  | .ref m => m < n
  | .tup ds => Cls' n ds
  | .rol ds => Cls' n ds
  | .non => True
  | .bl _ => True
  | .int _ => True
  | .str _ => True
  | .adr _ => True
def Cls' (n : Nat) : List D → Prop
  | [] => True
  | d :: ds => Cl n d ∧ Cls' n ds
end
def ClC (n : Nat) : Cell → Prop
  | .lst ds => Cls' n ds
  | .dct ks => Cls' n (ks.map (·.2))
  | .ins _ fs => Cls' n (fs.map (·.2))
def ClS (S : Store) : Prop := ∀ (i : Nat) (c : Cell), S[i]? = some c → ClC S.length c
mutual
def Ren (ψ : List Nat) : D → D → Prop
  | .ref i, e => ∃ j, ψ[i]? = some j ∧ e = .ref j
  | .tup ds, e => ∃ es, e = .tup es ∧ Rens ψ ds es
  | .rol ds, e => ∃ es, e = .rol es ∧ Rens ψ ds es
  | .non, e => e = .non
  | .bl b, e => e = .bl b
  | .int i, e => e = .int i
  | .str x, e => e = .str x
  | .adr x, e => e = .adr x
def Rens (ψ : List Nat) : List D → List D → Prop
  | [], es => es = []
  | d :: ds, es => ∃ e r, es = e :: r ∧ Ren ψ d e ∧ Rens ψ ds r
end
def RenC (ψ : List Nat) : Cell → Cell → Prop
  | .lst ds, c => ∃ es, c = .lst es ∧ Rens ψ ds es
  | .dct ks, c => ∃ es, c = .dct es ∧ ks.map (·.1) = es.map (·.1) ∧ Rens ψ (ks.map (·.2)) (es.map (·.2))
  | .ins k fs, c => ∃ es, c = .ins k es ∧ fs.map (·.1) = es.map (·.1) ∧ Rens ψ (fs.map (·.2)) (es.map (·.2))
/-- behind a call: the store S' with the value d' may be read as S2 with d2; the first n cells stay where they are -/
def Gc (n : Nat) (S' : Store) (d' : D) (S2 : Store) (d2 : D) : Prop := ∃ ψ : List Nat, (∃ t, ψ = List.range n ++ t) ∧ ψ.Nodup ∧ ψ.length = S2.length ∧
  (∀ (i j : Nat) (c2 : Cell), S2[i]? = some c2 → ψ[i]? = some j → ∃ c : Cell, S'[j]? = some c ∧ RenC ψ c2 c) ∧ Ren ψ d2 d'
def RetQ (n : Nat) (Q : PQ) (d : D) (S : Store) : Prop := Q d S ∨ ∃ S2 d2, Gc n S d S2 d2 ∧ Q d2 S2
def RetE (n : Nat) (E : Str → Store → Prop) (c : Str) (S : Store) : Prop := E c S ∨ ∃ S2, Gc n S .non S2 .non ∧ E c S2

theorem Rens.nil {ψ : List Nat} : Rens ψ [] [] := by simp only [Rens]
theorem Rens.cons {ψ : List Nat} {d e : D} {ds es : List D} (h : Ren ψ d e) (t : Rens ψ ds es) : Rens ψ (d :: ds) (e :: es) := by simp only [Rens]; exact ⟨e, es, rfl, h, t⟩
mutual
theorem Ren.id {ψ : List Nat} {n : Nat} (hψ : ∀ i, i < n → ψ[i]? = some i) : ∀ {d : D}, Cl n d → Ren ψ d d
  | .ref m, h => by
    simp only [Cl] at h; simp only [Ren]; exact ⟨m, hψ m h, rfl⟩
  | .tup ds, h => by
    simp only [Cl] at h; simp only [Ren]; exact ⟨ds, rfl, Rens.id hψ h⟩
  | .rol ds, h => by
    simp only [Cl] at h; simp only [Ren]; exact ⟨ds, rfl, Rens.id hψ h⟩
  | .non, _ => by simp only [Ren]
  | .bl _, _ => by simp only [Ren]
  | .int _, _ => by simp only [Ren]
  | .str _, _ => by simp only [Ren]
  | .adr _, _ => by simp only [Ren]
theorem Rens.id {ψ : List Nat} {n : Nat} (hψ : ∀ i, i < n → ψ[i]? = some i) : ∀ {ds : List D}, Cls' n ds → Rens ψ ds ds
  | [], _ => Rens.nil
  | d :: ds, h => by
    simp only [Cls'] at h
    exact Rens.cons (Ren.id hψ h.1) (Rens.id hψ h.2)
end
theorem RenC.id {ψ : List Nat} {n : Nat} (hψ : ∀ i, i < n → ψ[i]? = some i) : ∀ {c : Cell}, ClC n c → RenC ψ c c
  | .lst ds, h => ⟨ds, rfl, Rens.id hψ h⟩
  | .dct ds, h => ⟨ds, rfl, rfl, Rens.id hψ h⟩
  | .ins k ds, h => ⟨ds, rfl, rfl, Rens.id hψ h⟩
theorem range_get {n i : Nat} {t : List Nat} (h : i < n) : (List.range n ++ t)[i]? = some i := by
  rw [List.getElem?_append_left (by simpa using h), List.getElem?_range h]
/-- nothing of what was made is told -/
theorem Gc.drop {S0 G : Store} {d : D} {n : Nat} (hn : S0.length = n) (hc : ClS S0) (hd : Cl n d) : Gc n (S0 ++ G) d S0 d := by
  subst hn
  refine ⟨List.range S0.length, ⟨[], by simp⟩, List.nodup_range, by simp, fun i j c2 h1 h2 => ?_, Ren.id (fun i h => by simpa using range_get (t := []) h) hd⟩
  have hi : i < S0.length := (List.getElem?_eq_some_iff.mp h1).1
  rw [List.getElem?_range hi] at h2
  cases h2
  exact ⟨c2, by rw [List.getElem?_append_left hi]; exact h1, RenC.id (fun i h => by simpa using range_get (t := []) h) (hc i c2 h1)⟩
/-- a list of things that were there ahead, or hold no places -/
theorem Gc.one {S0 S' : Store} {c : Cell} {n k : Nat} (hn : S0.length = n) (hc : ClS S0) (h0 : ∀ i, i < n → S'[i]? = S0[i]?) (hk : S'[k]? = some c) (hnk : n ≤ k) (hd : ClC n c) : Gc n S' (.ref k) (S0 ++ [c]) (.ref n) := by
  subst hn
  have hψ : ∀ i, i < S0.length → (List.range S0.length ++ [k])[i]? = some i := fun i h => range_get h
  refine ⟨List.range S0.length ++ [k], ⟨[k], rfl⟩, ?_, by simp, fun i j c2 h1 h2 => ?_, ?_⟩
  · rw [List.nodup_append]
    exact ⟨List.nodup_range, by simp, fun a ha b hb e => by
      have h1 : a < S0.length := by simpa using ha
      have h2 : b = k := by simpa using hb
      omega⟩
  · by_cases hi : i < S0.length
    · rw [hψ i hi] at h2; cases h2
      rw [List.getElem?_append_left hi] at h1
      exact ⟨c2, by rw [h0 i hi]; exact h1, RenC.id hψ (hc i c2 h1)⟩
    · have hi2 : i = S0.length := by
        have := (List.getElem?_eq_some_iff.mp h1).1
        simp at this; omega
      subst hi2
      rw [List.getElem?_append_right (Nat.le_refl _)] at h1
      rw [List.getElem?_append_right (by simp)] at h2
      simp at h1 h2
      subst h1; subst h2
      exact ⟨c, hk, RenC.id hψ hd⟩
  · simp only [Ren]
    exact ⟨k, by rw [List.getElem?_append_right (by simp)]; simp, rfl⟩

/-! ### the heap's side -/
section
variable {K : PySem.W.Frag} {mg : Str → Option Value} {φ : List Addr} {H : Hp}
def pick (φ : List Addr) (ψ : List Nat) : List Addr := ψ.filterMap fun j => φ[j]?
theorem pick_length {φ : List Addr} : ∀ {ψ : List Nat}, (∀ j ∈ ψ, j < φ.length) → (pick φ ψ).length = ψ.length
  | [], _ => rfl
  | j :: ψ, h => by
    unfold pick
    rw [List.filterMap_cons, List.getElem?_eq_getElem (h j (List.mem_cons_self ..))]
    have := pick_length (ψ := ψ) fun i hi => h i (List.mem_cons_of_mem _ hi)
    unfold pick at this
    simp [this]
theorem pick_get {φ : List Addr} : ∀ {ψ : List Nat}, (∀ j ∈ ψ, j < φ.length) → ∀ {i j : Nat}, ψ[i]? = some j → (pick φ ψ)[i]? = φ[j]?
  | [], _, i, j, e => by simp at e
  | k :: ψ, h, i, j, e => by
    unfold pick
    rw [List.filterMap_cons, List.getElem?_eq_getElem (h k (List.mem_cons_self ..))]
    cases i with
    | zero => simp at e; subst e; simp
    | succ i =>
      have := pick_get (ψ := ψ) (fun i hi => h i (List.mem_cons_of_mem _ hi)) (i := i) (j := j) (by simpa using e)
      unfold pick at this
      simpa using this
theorem pick_range {φ : List Addr} {t : List Addr} : pick (φ ++ t) (List.range φ.length) = φ := by
  apply List.ext_getElem?
  intro i
  by_cases hi : i < φ.length
  · rw [pick_get (fun j hj => by simp at hj ⊢; omega) (List.getElem?_range hi), List.getElem?_append_left hi]
  · rw [List.getElem?_eq_none (by rw [pick_length (fun j hj => by simp at hj ⊢; omega)]; simpa using hi), List.getElem?_eq_none (by omega)]
theorem pick_mem {φ : List Addr} {ψ : List Nat} {a : Addr} (h : a ∈ pick φ ψ) : a ∈ φ := by
  unfold pick at h
  obtain ⟨j, _, e⟩ := List.mem_filterMap.mp h
  exact List.mem_of_getElem? e
theorem pick_nodup {φ : List Addr} (hφ : φ.Nodup) : ∀ {ψ : List Nat}, ψ.Nodup → (pick φ ψ).Nodup
  | [], _ => by simp [pick]
  | j :: ψ, h => by
    rw [List.nodup_cons] at h
    have ih := pick_nodup hφ h.2
    unfold pick at ih ⊢
    rw [List.filterMap_cons]
    cases e : φ[j]? with
    | none => exact ih
    | some a =>
      refine List.nodup_cons.mpr ⟨fun hm => ?_, ih⟩
      obtain ⟨k, hk, ek⟩ := List.mem_filterMap.mp hm
      obtain ⟨h1, q1⟩ := List.getElem?_eq_some_iff.mp e
      obtain ⟨h2, q2⟩ := List.getElem?_eq_some_iff.mp ek
      have := (List.getElem_inj hφ).mp (q1.trans q2.symm)
      subst this
      exact h.1 hk
mutual
theorem RD.ren {ψ : List Nat} (hψ : ∀ j ∈ ψ, j < φ.length) : ∀ {d e : D} {v : V}, Ren ψ d e → RD K φ H e v → RD K (pick φ ψ) H d v
  | .ref i, e, v, h, r => by
    simp only [Ren] at h
    obtain ⟨j, h1, rfl⟩ := h
    simp only [RD] at r ⊢
    rw [pick_get hψ h1]; exact r
  | .tup ds, e, v, h, r => by
    simp only [Ren] at h
    obtain ⟨es, rfl, h⟩ := h
    simp only [RD] at r ⊢
    obtain ⟨a, vs, h1, h2, r⟩ := r
    exact ⟨a, vs, h1, h2, RDs.ren hψ h r⟩
  | .rol ds, e, v, h, r => by
    simp only [Ren] at h
    obtain ⟨es, rfl, h⟩ := h
    simp only [RD] at r ⊢
    obtain ⟨a, vs, h1, h2, r⟩ := r
    exact ⟨a, vs, h1, h2, RDs.ren hψ h r⟩
  | .non, e, v, h, r => by simp only [Ren] at h; subst h; simpa only [RD] using r
  | .bl _, e, v, h, r => by simp only [Ren] at h; subst h; simpa only [RD] using r
  | .int _, e, v, h, r => by simp only [Ren] at h; subst h; simpa only [RD] using r
  | .str _, e, v, h, r => by simp only [Ren] at h; subst h; simpa only [RD] using r
  | .adr _, e, v, h, r => by simp only [Ren] at h; subst h; simpa only [RD] using r
theorem RDs.ren {ψ : List Nat} (hψ : ∀ j ∈ ψ, j < φ.length) : ∀ {ds es : List D} {vs : List V}, Rens ψ ds es → RDs K φ H es vs → RDs K (pick φ ψ) H ds vs
  | [], es, vs, h, r => by
    simp only [Rens] at h; subst h
    simpa only [RDs] using r
  | d :: ds, es, vs, h, r => by
    simp only [Rens] at h
    obtain ⟨e, t, rfl, h1, h2⟩ := h
    obtain ⟨v, q, rfl, r1, r2⟩ := r.inv
    exact RDs.cons (RD.ren hψ h1 r1) (RDs.ren hψ h2 r2)
end
theorem Rens.length {ψ : List Nat} : ∀ {ds es : List D}, Rens ψ ds es → ds.length = es.length
  | [], es, h => by simp only [Rens] at h; subst h; rfl
  | d :: ds, es, h => by
    simp only [Rens] at h
    obtain ⟨e, t, rfl, h1, h2⟩ := h
    simp [Rens.length h2]
theorem RC.ren {ψ : List Nat} (hψ : ∀ j ∈ ψ, j < φ.length) {a : Addr} : ∀ {c e : Cell}, RenC ψ c e → RC K mg φ H a e → RC K mg (pick φ ψ) H a c
  | .lst ds, e, h, r => by
    obtain ⟨es, rfl, h⟩ := h
    obtain ⟨vs, h1, h2, h3⟩ := r
    exact ⟨vs, h1, h2.ren hψ h, by rw [h.length]; exact h3⟩
  | .dct ds, e, h, r => by
    obtain ⟨es, rfl, hk, h⟩ := h
    obtain ⟨vs, h1, ⟨h2, h4⟩, h3⟩ := r
    refine ⟨vs, h1, ⟨hk.trans h2, h4.ren hψ h⟩, ?_⟩
    have := h.length
    simp at this
    omega
  | .ins k ds, e, h, r => by
    obtain ⟨es, rfl, hk, h⟩ := h
    obtain ⟨C, dx, vs, h0, h1, h2, h4⟩ := r
    exact ⟨C, dx, vs, h0, h1, hk.trans h2, h4.ren hψ h⟩
theorem RDs.ren' : True := trivial
theorem gc_ok {φ' : List Addr} {H' : Hp} {S' S2 : Store} {d' d2 : D} {v : V} {n : Nat} (x : Ext φ H φ' H') (hn : φ.length = n) (rs : RS K mg φ' S' H') (rd : RD K φ' H' d' v) (g : Gc n S' d' S2 d2) :
    ∃ φ2, Ext φ H φ2 H' ∧ RS K mg φ2 S2 H' ∧ RD K φ2 H' d2 v := by
  obtain ⟨ψ, ⟨t, ht⟩, nd, hl, hc, hd⟩ := g
  have hψ : ∀ j ∈ ψ, j < φ'.length := fun j hj => by
    obtain ⟨i, hi, e⟩ := List.mem_iff_getElem.mp hj
    have h1 : i < S2.length := by omega
    obtain ⟨c, h2, _⟩ := hc i j _ (List.getElem?_eq_getElem h1) (by rw [List.getElem?_eq_getElem hi, e])
    rw [rs.len]
    exact (List.getElem?_eq_some_iff.mp h2).1
  obtain ⟨u, hu⟩ := x.pre
  refine ⟨pick φ' ψ, ⟨⟨pick φ' t, ?_⟩, x.keep, x.im, fun b hb => x.new b (pick_mem hb)⟩, ⟨by rw [pick_length hψ, hl], pick_nodup rs.nd nd, fun i c a e1 e2 => ?_⟩, RD.ren hψ hd rd⟩
  · rw [ht]
    unfold pick
    rw [List.filterMap_append]
    have := pick_range (φ := φ) (t := u)
    unfold pick at this
    rw [← hn, hu, this]
  · have hi : i < ψ.length := by rw [hl]; exact (List.getElem?_eq_some_iff.mp e1).1
    have e3 : ψ[i]? = some ψ[i] := List.getElem?_eq_getElem hi
    rw [pick_get hψ e3] at e2
    obtain ⟨c', h1, h2⟩ := hc i _ c e1 e3
    exact RC.ren hψ h2 (rs.cell _ _ _ h1 e2)
mutual
theorem RD.cl : ∀ {d : D} {v : V}, RD K φ H d v → Cl φ.length d
  | .ref n, v, h => by
    simp only [RD] at h; simp only [Cl]
    obtain ⟨a, h, _⟩ := h
    exact (List.getElem?_eq_some_iff.mp h).1
  | .tup ds, v, h => by
    simp only [RD] at h; simp only [Cl]
    obtain ⟨a, vs, _, _, h⟩ := h
    exact RDs.cl h
  | .rol ds, v, h => by
    simp only [RD] at h; simp only [Cl]
    obtain ⟨a, vs, _, _, h⟩ := h
    exact RDs.cl h
  | .non, v, h => by simp only [Cl]
  | .bl _, v, h => by simp only [Cl]
  | .int _, v, h => by simp only [Cl]
  | .str _, v, h => by simp only [Cl]
  | .adr _, v, h => by simp only [Cl]
theorem RDs.cl : ∀ {ds : List D} {vs : List V}, RDs K φ H ds vs → Cls' φ.length ds
  | [], _, _ => by simp only [Cls']
  | d :: ds, vs, h => by
    obtain ⟨v, r, _, h1, h2⟩ := h.inv
    simp only [Cls']
    exact ⟨RD.cl h1, RDs.cl h2⟩
end
theorem RS.cl {S : Store} (rs : RS K mg φ S H) : ClS S := fun i c e => by
  obtain ⟨a, ha, hc⟩ := rs.ref e
  rw [← rs.len]
  cases c with
  | lst ds => obtain ⟨vs, _, r, _⟩ := hc; exact r.cl
  | dct ks => obtain ⟨vs, _, r, _⟩ := hc; exact r.2.cl
  | ins k fs => obtain ⟨C, dx, vs, _, _, r⟩ := hc; exact r.2.cl
end

/-! ### a def -/
def startD (N : List Str) (ds : List D) : DEnv := ds.map some ++ List.replicate (N.length - ds.length) none
theorem RE.st {K : PySem.W.Frag} {φ : List Addr} {H : Hp} {N : List Str} {ds : List D} {vs : List V} (r : RDs K φ H ds vs) : RE K φ H (startD N ds) (start N vs) := by
  have hl := r.length
  refine ⟨by unfold startD L2.start; simp [hl], fun i d h => ?_⟩
  unfold startD at h
  by_cases hi : i < ds.length
  · rw [List.getElem?_append_left (by simpa using hi), List.getElem?_map] at h
    cases e : ds[i]? with
    | none => rw [e] at h; simp at h
    | some x =>
      rw [e] at h
      simp at h
      subst h
      obtain ⟨v, h1, h2⟩ := r.get e
      refine ⟨v, ?_, h2⟩
      unfold L2.start
      rw [List.getElem?_append_left (by rw [List.length_map, ← hl]; exact hi), List.getElem?_map, h1]; rfl
  · rw [List.getElem?_append_right (by simpa using hi), List.getElem?_replicate] at h
    split at h <;> simp at h
/-- what a def's promise over the store is to be shown -/
def Ob (N : List Str) (sp : SPf) (w : WS) : Prop := ∀ ds S Q E, ClS S → Cls' S.length ds → sp ds S Q E → w (startD N ds) S ⟨fun _ S' => RetQ S.length Q .non S', RetQ S.length Q⟩ (fun c _ S' => RetE S.length E c S')
theorem fn_ok {P : Program} {w : World} {K : PySem.W.Frag} {mg : Str → Option Value} {base : Heap} {x qual : Str} {st : Stmt} {f : Addr} {fd : FuncData} {N ps : List Str} {k : Nat} {sp : SPf} (F : Fun K x qual st f fd) (S : FnScope N ps (defScope st)) (u : WS)
    (len : ∀ ds S Q E, sp ds S Q E → ds.length = ps.length)
    (hb : ∀ (cdv : Value) (A : Around) (outer : List Env) (s : Shared) (H : Hp) (E : XK), Room k (A.deeper (envOfC qual (defScope st) s.heap.objs.size f cdv)) →
      PSs (cxOf (L2.CX P w) P w K mg base N qual (defScope st) f cdv A outer s H E) (defBody st) (tsm K mg (fun cls d _ H => E cls d H) u))
    (ob : Ob N sp u) : FnOk P w K mg base (L2.CX P w) (k + 1) f fd ps (spOf K mg sp) := by
  refine F.okX S (fun vs H Q E ⟨φ, S, ds, rs, rd, Q', E', h, _⟩ => ?_) fun cdv A outer s H vs Q E hr ⟨φ, S, ds, rs, rd, Q', E', h, hn, hx⟩ => ?_
  · rw [← rd.length]; exact len _ _ _ _ h
  · have ret : ∀ d S', RetQ S.length Q' d S' → ∀ v φ' H', Ext φ H φ' H' → RS K mg φ' S' H' → RD K φ' H' d v → Q v H' := fun d S' hq v φ' H' x rs' rd' => by
      rcases hq with hq | ⟨S2, d2, g, hq⟩
      · exact hn d S' hq v φ' H' x rs' rd'
      · obtain ⟨φ2, x2, rs2, rd2⟩ := gc_ok x rs.len rs' rd' g
        exact hn d2 S2 hq v φ2 H' x2 rs2 rd2
    refine ⟨_, hb cdv A outer s H E hr, φ, startD N ds, S, rs, RE.st rd, _, _, ob ds S Q' E' rs.cl (by rw [← rs.len]; exact rd.cl) h, fun ρ' S' hq σ' φ' H' x rs' re' => ret .non S' hq .non φ' H' x rs' RD.non, ret, fun c ρ' S' hq u φ' H' σ' x rs' re' m => ?_⟩
    rcases hq with hq | ⟨S2, g, hq⟩
    · exact hx c S' hq u φ' H' x rs' m
    · obtain ⟨φ2, x2, rs2, rd2⟩ := gc_ok x rs.len rs' (RD.non (φ := φ') (H := H')) g
      exact hx c S2 hq u φ2 H' x2 rs2 m

/-! ### comprehensions -/
def NoE : PX := fun _ _ _ => False
def wYes : W := ret (.bl true)
def compG (st : Store → Prop) (b : Tg) (c e : W) : List D → List D → DEnv → Store → PQ → Prop
  | [], acc, _, S, Q => st S ∧ Q (.ref S.length) (S ++ [.lst acc])
  | x :: xs, acc, ρ, S, Q => st S ∧ b x ρ fun ρ1 => c ρ1 S (fun d S1 => ∃ k, d = .bl k ∧
      if k = true then e ρ1 S1 (fun y S2 => compG st b c e xs (acc ++ [y]) ρ S2 Q) NoE else compG st b c e xs acc ρ S1 Q) NoE
def wipeD : DEnv → List Nat → DEnv
  | ρ, [] => ρ
  | ρ, v :: vs => (wipeD ρ vs).set v none
def wComp (vs : List Nat) (b : Tg) (w c e : W) : W := fun ρ S Q E => w ρ S (fun d S1 => ∃ n ds, d = .ref n ∧ atL n ds S1 ∧ compG (atL n ds) b c e ds [] (wipeD ρ vs) S1 Q) E
def wCompT (vs : List Nat) (b : Tg) (w c e : W) : W := fun ρ S Q E => w ρ S (fun d S1 => ∃ ds, d = .tup ds ∧ ds.length ≤ 1000 ∧ compG (fun _ => True) b c e ds [] (wipeD ρ vs) S1 Q) E
def wCompR1 (vs : List Nat) (b : Tg) (w c e : W) : W := fun ρ S Q E => w ρ S (fun d S1 => ∃ j : Int, d = .int j ∧ -(2 ^ 62) ≤ j ∧ j ≤ 100000 ∧ compG (fun _ => True) b c e (rangeD 0 j.toNat) [] (wipeD ρ vs) S1 Q) E
def wCompR2 (vs : List Nat) (b : Tg) (w u c e : W) : W := fun ρ S Q E => w ρ S (fun d S1 => u ρ S1 (fun d2 S2 => ∃ i j : Int, d = .int i ∧ d2 = .int j ∧ (-(2 ^ 62) ≤ i ∧ i < 2 ^ 62 ∧ -(2 ^ 62) ≤ j ∧ j < 2 ^ 62 ∧ j - i ≤ 100000) ∧ compG (fun _ => True) b c e (rangeD i (j - i).toNat) [] (wipeD ρ vs) S2 Q) E) E
theorem wipeD_length (ρ : DEnv) : ∀ vs, (wipeD ρ vs).length = ρ.length
  | [] => rfl
  | v :: vs => by unfold wipeD; rw [List.length_set, wipeD_length ρ vs]
theorem RE.wipe {K : PySem.W.Frag} {φ : List Addr} {H : Hp} {ρ : DEnv} {σ : L2.St} (h : RE K φ H ρ σ) : ∀ vs, RE K φ H (wipeD ρ vs) (L2.wipe σ vs)
  | [] => h
  | v :: vs => by unfold wipeD L2.wipe; exact (RE.wipe h vs).none v
theorem wipe_set1 (σ : L2.St) (i : Nat) (v : Option V) : L2.wipe ((L2.wipe σ [i]).set i v) [i] = L2.wipe σ [i] := by
  show ((σ.set i none).set i v).set i none = σ.set i none
  simp
theorem of_name (X : Cx) (i : Nat) : ∀ φ ρ σ0 H d v (k : DEnv → Prop) (Q : L2.St → Hp → Prop), RE X.K φ H ρ (L2.wipe σ0 [i]) → RD X.K φ H d v → tN i d ρ k → (∀ ρ' σ', k ρ' → RE X.K φ H ρ' σ' → L2.wipe σ' [i] = L2.wipe σ0 [i] → Q σ' H) → gName i v (L2.wipe σ0 [i]) H Q :=
  fun φ ρ σ0 H d v k Q re rd h q => q _ _ h (re.set rd i) (wipe_set1 _ _ _)
theorem wipe_set2 (σ : L2.St) (i j : Nat) (v w : Option V) : L2.wipe (((L2.wipe σ [i, j]).set i v).set j w) [i, j] = L2.wipe σ [i, j] := by
  show (((((σ.set j none).set i none).set i v).set j w).set j none).set i none = (σ.set j none).set i none
  apply List.ext_getElem?
  intro k
  simp only [List.getElem?_set, List.length_set]
  by_cases h1 : i = k <;> by_cases h2 : j = k <;> simp [h1, h2]
section
variable {X : Cx} {WW : WX} {a e elt tg iter : Expr} {ifs : List Expr} {scope : Scope} {own : List (Str × Nat)} {pos : Pos} {w c ee : W} {vs : List Nat}
def PN (K : PySem.W.Frag) (φ : List Addr) (H1 : Hp) (DD : Addr) (mg : Str → Option Value) (ds : List D) (stb : Store → Prop) (b : Tg) (c ee : W) (ρ : DEnv) (Q' : PQ) (i : Nat) (H' : Hp) : Prop :=
  ∃ φ' S' acc us, Ext φ H1 φ' H' ∧ RS K mg φ' S' H' ∧ DD ∉ φ' ∧ H' DD = some (.lst us) ∧ RDs K φ' H' acc us ∧ acc.length + (ds.length - i) ≤ sizeLine ∧ compG stb b c ee (ds.drop i) acc ρ S' Q'
theorem pn_st {K : PySem.W.Frag} {φ : List Addr} {H1 : Hp} {DD : Addr} {mg : Str → Option Value} {ds : List D} {stb : Store → Prop} {b : Tg} {ρ : DEnv} {Q' : PQ} {i : Nat} {H' : Hp} (h : PN K φ H1 DD mg ds stb b c ee ρ Q' i H') :
    ∃ φ' S', Ext φ H1 φ' H' ∧ RS K mg φ' S' H' ∧ stb S' := by
  obtain ⟨φ', S', acc, us, x, rs, nd, hD, r, hl, h⟩ := h
  refine ⟨φ', S', x, rs, ?_⟩
  cases hd : ds.drop i with
  | nil => rw [hd] at h; exact h.1
  | cons y ys => rw [hd] at h; exact h.1
theorem pn_turn {φ : List Addr} {H1 : Hp} {DD : Addr} {ds : List D} {stb : Store → Prop} {b : Tg} {g : TG} {ρ : DEnv} {Q' : PQ} {i : Nat} {H' : Hp} {σ : L2.St} {d : D} {y : V} {t : TT} {te : TE} (hn : H1 DD = none)
    (ho : ∀ φ ρ σ0 H d v (k : DEnv → Prop) (Q : L2.St → Hp → Prop), RE X.K φ H ρ (L2.wipe σ0 vs) → RD X.K φ H d v → b d ρ k → (∀ ρ' σ', k ρ' → RE X.K φ H ρ' σ' → L2.wipe σ' vs = L2.wipe σ0 vs → Q σ' H) → g v (L2.wipe σ0 vs) H Q)
    (h : PN X.K φ H1 DD X.mg ds stb b c ee ρ Q' i H') (hi : ds[i]? = some d) (re : RE X.K φ H1 ρ (L2.wipe σ vs)) (rd : ∀ φ' S', Ext φ H1 φ' H' → RS X.K X.mg φ' S' H' → stb S' → RD X.K φ' H' d y)
    (ht : ∀ σ H Q, tm X.K X.mg (fun _ _ _ _ => False) c σ H (fun v H' => ∃ k, v = .bl k ∧ Q k H') → t σ H Q) (hte : ∀ σ H Q, tm X.K X.mg (fun _ _ _ _ => False) ee σ H Q → te σ H Q) :
    g y (L2.wipe σ vs) H' fun σ2 H2 => L2.wipe σ2 vs = L2.wipe σ vs ∧ t σ2 H2 fun k H3 =>
      if k = true then te σ2 H3 fun z H4 => ∃ acc, H4 DD = some (.lst acc) ∧ acc.length < sizeLine ∧ PN X.K φ H1 DD X.mg ds stb b c ee ρ Q' (i + 1) (upd H4 DD (.lst (acc ++ [z]))) else PN X.K φ H1 DD X.mg ds stb b c ee ρ Q' (i + 1) H3 := by
  obtain ⟨φ', S', acc, us, x, rs, nd, hD, r, hl, h⟩ := h
  rw [drop_cons hi] at h
  obtain ⟨hs, h⟩ := h
  have hlt : i < ds.length := (List.getElem?_eq_some_iff.mp hi).1
  refine ho φ' ρ σ H' d y _ _ (re.mono x) (rd φ' S' x rs hs) h fun ρ1 σ1 h1 re1 hw => ⟨hw, ht _ _ _ ?_⟩
  refine ⟨φ', ρ1, S', rs, re1, _, NoE, h1, fun dk S1 h2 v φ2 H2 e2 rs2 rd2 => ?_, fun _ _ _ z => z.elim⟩
  obtain ⟨k, rfl, h2⟩ := h2
  refine ⟨k, rd2.bl_inv, ?_⟩
  have nd2 : DD ∉ φ2 := fun hm => by
    rcases e2.new DD hm with q | q
    · exact nd q
    · rw [hD] at q; cases q
  have hD2 : H2 DD = some (.lst us) := e2.keep _ _ hD nd
  cases k with
  | true =>
    refine hte _ _ _ ⟨φ2, ρ1, S1, rs2, re1.mono e2, _, NoE, h2, fun dy S3 h3 v3 φ3 H3 e3 rs3 rd3 => ?_, fun _ _ _ z => z.elim⟩
    have nd3 : DD ∉ φ3 := fun hm => by
      rcases e3.new DD hm with q | q
      · exact nd2 q
      · rw [hD2] at q; cases q
    have hD3 : H3 DD = some (.lst us) := e3.keep _ _ hD2 nd2
    have hu : us.length = acc.length := r.length.symm
    have lg : Le φ3 H3 φ3 (upd H3 DD (.lst (us ++ [v3]))) := Le.grow hD3
    refine ⟨us, hD3, by rw [hu]; omega, φ3, S3, acc ++ [dy], us ++ [v3], ((x.trans e2).trans e3).grow hn (.inr ⟨us, hD3⟩), rs3.grow hD3 nd3, nd3, upd_same, ?_, by simp; omega, h3⟩
    exact (((r.mono e2).mono e3).append (RDs.cons rd3 RDs.nil)).le lg
  | false => exact ⟨φ2, S1, acc, us, x.trans e2, rs2, nd2, hD2, r.mono e2, by omega, h2⟩
theorem pn_start {φ : List Addr} {H1 : Hp} {DD : Addr} {S : Store} {ds : List D} {stb : Store → Prop} {b : Tg} {ρ : DEnv} {Q' : PQ} (rs : RS X.K X.mg φ S H1) (hn : H1 DD = none) (hz : ds.length ≤ sizeLine) (h : compG stb b c ee ds [] ρ S Q') :
    PN X.K φ H1 DD X.mg ds stb b c ee ρ Q' 0 (upd H1 DD (.lst [])) :=
  ⟨φ, S, [], [], Ext.laid rs hn, rs.laid hn, rs.out hn, upd_same, RDs.nil, by simpa using hz, by simpa using h⟩
theorem pn_end {φ : List Addr} {H1 : Hp} {DD : Addr} {ds : List D} {stb : Store → Prop} {b : Tg} {ρ : DEnv} {Q' : PQ} {H' : Hp} {i : Nat} {Q : VK} (hn : H1 DD = none) (h : PN X.K φ H1 DD X.mg ds stb b c ee ρ Q' i H') (hi : ds.length ≤ i)
    (hq : ∀ d S', Q' d S' → ∀ v φ' H', Ext φ H1 φ' H' → RS X.K X.mg φ' S' H' → RD X.K φ' H' d v → Q v H') : Q (.ref DD) H' := by
  obtain ⟨φ', S', acc, us, x, rs, nd, hD, r, hl, h⟩ := h
  rw [List.drop_of_length_le hi] at h
  have lx : Le φ' H' (φ' ++ [DD]) H' := ⟨fun e => by rw [List.getElem?_append_left (List.getElem?_eq_some_iff.mp e).1]; exact e, fun _ _ e _ => e⟩
  exact hq _ _ h.2 _ _ _ (x.adopt hn) (rs.adopt nd ⟨us, hD, r, by omega⟩) (alloc_ref rs DD)
theorem PTs.conv {X : Cx} {e : List Expr} {t u : TT} (h : PTs X e t) (q : ∀ σ H Q, u σ H Q → t σ H Q) : PTs X e u := ⟨fun pins s σ H Q I hw => h.run pins s σ H Q I (q σ H Q hw)⟩
/-- no test -/
theorem sts_nil : PTs X [] (ttm X.K X.mg WW wYes) := PTs.conv pts_nil fun σ H Q ⟨φ, ρ, S, q⟩ => by
  obtain ⟨k, e, z⟩ := q.ret RD.bl
  cases e
  exact z
theorem sts_one {t : Expr} (h : PT X t (ttm X.K X.mg WW w)) : PTs X [t] (ttm X.K X.mg WW w) := pts_one h
abbrev NoW : WX := fun _ _ _ _ => False
abbrev Blk (X : Cx) (scope : Scope) (P : Cx → Prop) : Prop := ∀ (s : Shared) (H : Hp) (C : Addr) (cl : List (Str × Addr)) (fp : List Addr), P (X.blk s H scope (compEnvC scope cl C X.env) fp)
/-- the walk of a comprehension over a list -/
theorem lc_go {g : TG} {b : Tg} (ho : ∀ φ ρ σ0 H d v (k : DEnv → Prop) (Q : L2.St → Hp → Prop), RE X.K φ H ρ (L2.wipe σ0 vs) → RD X.K φ H d v → b d ρ k → (∀ ρ' σ', k ρ' → RE X.K φ H ρ' σ' → L2.wipe σ' vs = L2.wipe σ0 vs → Q σ' H) → g v (L2.wipe σ0 vs) H Q)
    (σ : L2.St) (H : Hp) (Q : VK) (q : tm X.K X.mg WW (wComp vs b w c ee) σ H Q) : tLc (iList X.K (tm X.K X.mg WW w)) g (ttm X.K X.mg NoW c) (tm X.K X.mg NoW ee) vs σ H Q := by
  obtain ⟨φ, ρ, S, rs, re, Q', E', hw, hn, hx⟩ := q
  refine ⟨φ, ρ, S, rs, re, _, E', hw, fun d S1 ⟨n, ds, e1, hat, h1⟩ v φ1 H1 x1 rs1 rd1 => ?_, hx⟩
  subst e1
  obtain ⟨a, us, rfl, ha, hH, r, z⟩ := rs1.lst hat rd1
  refine ⟨a, rfl, ⟨us, SqL.of hH⟩, fun DD hD => ?_⟩
  refine ⟨fun i m H' => m = ds.length - i ∧ PN X.K φ1 H1 DD X.mg ds (atL n ds) b c ee (wipeD ρ vs) Q' i H', ⟨_, rfl, pn_start rs1 hD z h1⟩, ?_⟩
  rintro i m H' ⟨rfl, p⟩
  obtain ⟨φ', S', x', rs', hs'⟩ := pn_st p
  obtain ⟨a2, vs2, e2, ha2, hH2, r2, _⟩ := rs'.lst hs' (rd1.mono x')
  cases e2
  by_cases hi : i < ds.length
  · have hd : ds[i]? = some ds[i] := List.getElem?_eq_getElem hi
    obtain ⟨y, hy, ry⟩ := r2.get hd
    refine .inr ⟨⟨vs2, y, SqL.of hH2, hy⟩, PN X.K φ1 H1 DD X.mg ds (atL n ds) b c ee (wipeD ρ vs) Q' (i + 1), fun H2 h2 => ⟨ds.length - (i + 1), by omega, rfl, h2⟩, fun yy H2 hx2 => ?_⟩
    obtain ⟨rfl, fx⟩ := hx2
    have ex : yy = y := Option.some.inj ((fx _ (SqL.of hH2)).symm.trans hy)
    subst ex
    refine pn_turn (σ := σ) hD ho p hd ((re.mono x1).wipe vs) (fun φ4 S4 x4 rs4 hs4 => ?_) (fun _ _ _ q => q) (fun _ _ _ q => q)
    obtain ⟨a4, vs4, e4, ha4, hH4, r4, _⟩ := rs4.lst hs4 (rd1.mono x4)
    cases e4
    rw [hH2] at hH4; cases hH4
    obtain ⟨y4, hy4, ry4⟩ := r4.get hd
    rw [hy] at hy4; cases hy4
    exact ry4
  · refine .inl ⟨⟨vs2, SqL.of hH2, by rw [← r2.length]; omega⟩, ?_⟩
    exact pn_end hD p (by omega) fun d S2 a v φ2 H2 x => hn d S2 a v φ2 H2 (x1.trans x)
/-- over a tuple -/
theorem lc_goT {g : TG} {b : Tg} (ho : ∀ φ ρ σ0 H d v (k : DEnv → Prop) (Q : L2.St → Hp → Prop), RE X.K φ H ρ (L2.wipe σ0 vs) → RD X.K φ H d v → b d ρ k → (∀ ρ' σ', k ρ' → RE X.K φ H ρ' σ' → L2.wipe σ' vs = L2.wipe σ0 vs → Q σ' H) → g v (L2.wipe σ0 vs) H Q)
    (σ : L2.St) (H : Hp) (Q : VK) (q : tm X.K X.mg WW (wCompT vs b w c ee) σ H Q) : tLc (iTup X.K (tm X.K X.mg WW w)) g (ttm X.K X.mg NoW c) (tm X.K X.mg NoW ee) vs σ H Q := by
  obtain ⟨φ, ρ, S, rs, re, Q', E', hw, hn, hx⟩ := q
  refine ⟨φ, ρ, S, rs, re, _, E', hw, fun d S1 ⟨ds, e1, hz, h1⟩ v φ1 H1 x1 rs1 rd1 => ?_, hx⟩
  subst e1
  simp only [RD] at rd1
  obtain ⟨a, us, rfl, hH, r⟩ := rd1
  refine ⟨a, rfl, ⟨us, SqT.of hH⟩, fun DD hD => ?_⟩
  refine lc_tup (xs := us) (fun i H' => PN X.K φ1 H1 DD X.mg ds (fun _ => True) b c ee (wipeD ρ vs) Q' i H') (pn_start rs1 hD (Nat.le_of_lt (small1000 hz)) h1) ?_ ?_ ?_
  · intro i H' _ p
    obtain ⟨φ', S', x', rs', hs'⟩ := pn_st p
    exact SqT.of (x'.im _ _ hH fun z => z)
  · intro i x H' hi p
    obtain ⟨d, hd, rx⟩ := r.getV hi
    exact pn_turn (σ := σ) hD ho p hd ((re.mono x1).wipe vs) (fun φ4 S4 x4 rs4 hs4 => rx.mono x4) (fun _ _ _ q => q) (fun _ _ _ q => q)
  · intro H' p
    exact pn_end hD p (by rw [r.length]; exact Nat.le_refl _) fun d S2 a v φ2 H2 x => hn d S2 a v φ2 H2 (x1.trans x)
theorem lc_rng {g : TG} {b : Tg} {ρ : DEnv} {S1 : Store} {φ1 : List Addr} {H1 : Hp} {Q : VK} {Q' : PQ} (ho : ∀ φ ρ σ0 H d v (k : DEnv → Prop) (Q : L2.St → Hp → Prop), RE X.K φ H ρ (L2.wipe σ0 vs) → RD X.K φ H d v → b d ρ k → (∀ ρ' σ', k ρ' → RE X.K φ H ρ' σ' → L2.wipe σ' vs = L2.wipe σ0 vs → Q σ' H) → g v (L2.wipe σ0 vs) H Q)
    (σ : L2.St) (lo : Int) (n : Nat) (hz : n ≤ 100000) (rs1 : RS X.K X.mg φ1 S1 H1) (re : RE X.K φ1 H1 (wipeD ρ vs) (L2.wipe σ vs)) (h1 : compG (fun _ => True) b c ee (rangeD lo n) [] (wipeD ρ vs) S1 Q')
    (hq : ∀ d S', Q' d S' → ∀ v φ' H', Ext φ1 H1 φ' H' → RS X.K X.mg φ' S' H' → RD X.K φ' H' d v → Q v H') : ∀ D, H1 D = none → ∃ W : Nat → Nat → Hp → Prop, (∃ m, W 0 m (upd H1 D (.lst []))) ∧ ∀ i m H, W i m H →
  ((Itr lo n).stop i H ∧ Q (.ref D) H) ∨ ((Itr lo n).go i H ∧ ∃ Nx : Hp → Prop, (∀ H', Nx H' → ∃ m', m' < m ∧ W (i + 1) m' H') ∧ ∀ x H', (Itr lo n).yld i H x H' → g x (L2.wipe σ vs) H' fun σ2 H2 => L2.wipe σ2 vs = L2.wipe σ vs ∧ ttm X.K X.mg NoW c σ2 H2 fun b H3 =>
    if b = true then tm X.K X.mg NoW ee σ2 H3 fun y H4 => ∃ acc, H4 D = some (.lst acc) ∧ acc.length < sizeLine ∧ Nx (upd H4 D (.lst (acc ++ [y]))) else Nx H3) := by
  intro DD hD
  refine lc_range (fun i H' => PN X.K φ1 H1 DD X.mg (rangeD lo n) (fun _ => True) b c ee (wipeD ρ vs) Q' i H') (pn_start rs1 hD (by rw [rangeD_length]; exact Nat.le_trans hz (by decide)) h1) ?_ ?_
  · intro i H' hi p
    exact pn_turn (σ := σ) hD ho p (rangeD_get hi) re (fun φ4 S4 x4 rs4 hs4 => RD.int) (fun _ _ _ q => q) (fun _ _ _ q => q)
  · intro H' p
    exact pn_end hD p (Nat.le_of_eq (rangeD_length lo n)) hq
theorem lc_goR1 {g : TG} {b : Tg} (ho : ∀ φ ρ σ0 H d v (k : DEnv → Prop) (Q : L2.St → Hp → Prop), RE X.K φ H ρ (L2.wipe σ0 vs) → RD X.K φ H d v → b d ρ k → (∀ ρ' σ', k ρ' → RE X.K φ H ρ' σ' → L2.wipe σ' vs = L2.wipe σ0 vs → Q σ' H) → g v (L2.wipe σ0 vs) H Q)
    (σ : L2.St) (H : Hp) (Q : VK) (q : tm X.K X.mg WW (wCompR1 vs b w c ee) σ H Q) : tLc (iRng1 (tCons (tm X.K X.mg WW w) tNil)) g (ttm X.K X.mg NoW c) (tm X.K X.mg NoW ee) vs σ H Q := by
  obtain ⟨φ, ρ, S, rs, re, Q', E', hw, hn, hx⟩ := q
  refine ⟨φ, ρ, S, rs, re, _, E', hw, fun d S1 ⟨j, e1, hl, hz, h1⟩ v φ1 H1 x1 rs1 rd1 => ?_, hx⟩
  subst e1
  rw [rd1.int_inv]
  exact ⟨j, rfl, hl, by omega, lc_rng ho σ 0 j.toNat (by omega) rs1 ((re.mono x1).wipe vs) h1 fun d S2 a v φ2 H2 x => hn d S2 a v φ2 H2 (x1.trans x)⟩
theorem lc_goR2 {g : TG} {b : Tg} {wu : W} (ho : ∀ φ ρ σ0 H d v (k : DEnv → Prop) (Q : L2.St → Hp → Prop), RE X.K φ H ρ (L2.wipe σ0 vs) → RD X.K φ H d v → b d ρ k → (∀ ρ' σ', k ρ' → RE X.K φ H ρ' σ' → L2.wipe σ' vs = L2.wipe σ0 vs → Q σ' H) → g v (L2.wipe σ0 vs) H Q)
    (σ : L2.St) (H : Hp) (Q : VK) (q : tm X.K X.mg WW (wCompR2 vs b w wu c ee) σ H Q) : tLc (iRng2 (tCons (tm X.K X.mg WW w) (tCons (tm X.K X.mg WW wu) tNil))) g (ttm X.K X.mg NoW c) (tm X.K X.mg NoW ee) vs σ H Q := by
  obtain ⟨φ, ρ, S, rs, re, Q', E', hw, hn, hx⟩ := q
  refine ⟨φ, ρ, S, rs, re, _, E', hw, fun d S1 h1 v φ1 H1 x1 rs1 rd1 => ?_, hx⟩
  refine ⟨φ1, ρ, S1, rs1, re.mono x1, _, E', h1, fun d2 S2 ⟨i, j, e1, e2, hz, h2⟩ v2 φ2 H2 x2 rs2 rd2 => ?_, fun c ρ2 S2 a u φ2 H2 σ2 x => hx c ρ2 S2 a u φ2 H2 σ2 (x1.trans x)⟩
  subst e1 e2
  rw [rd1.int_inv, rd2.int_inv]
  exact ⟨i, j, rfl, ⟨hz.1, hz.2.1, hz.2.2.1, hz.2.2.2.1⟩, lc_rng ho σ i (j - i).toNat (by omega) rs2 (((re.mono x1).mono x2).wipe vs) h2 fun d S3 a v φ3 H3 x => hn d S3 a v φ3 H3 ((x1.trans x2).trans x)⟩
theorem of_names2 (X : Cx) (i j : Nat) : ∀ φ ρ σ0 H d v (k : DEnv → Prop) (Q : L2.St → Hp → Prop), RE X.K φ H ρ (L2.wipe σ0 [i, j]) → RD X.K φ H d v → tT [i, j] d ρ k → (∀ ρ' σ', k ρ' → RE X.K φ H ρ' σ' → L2.wipe σ' [i, j] = L2.wipe σ0 [i, j] → Q σ' H) → gTup X.K 2 (gNames [i, j]) v (L2.wipe σ0 [i, j]) H Q :=
  fun φ ρ σ0 H d v k Q re rd ⟨ds, e, l, hk⟩ q => by
    subst e
    simp only [RD] at rd
    obtain ⟨a, vs, rfl, ha, r⟩ := rd
    match ds, l with
    | [d1, d2], _ =>
      obtain ⟨v1, r1, rfl, h1, h2⟩ := r.inv
      obtain ⟨v2, r2, rfl, h3, h4⟩ := h2.inv
      have : r2 = [] := by simpa [RDs] using h4
      subst this
      exact ⟨a, _, rfl, SqT.of ha, rfl, v1, _, rfl, v2, _, rfl, rfl, q _ _ hk ((re.set h1 i).set h3 j) (wipe_set2 _ _ _ _ _)⟩
end

/-! ### slices -/
section
variable {X : Cx} {WW : WX} {a b c e o elt tg iter : Expr} {es ifs : List Expr} {scope : Scope} {own : List (Str × Nat)} {pos p2 apos : Pos} {w wa wb wc ce ee wo : W} {ws : List W} {vs : List Nat}
inductive SO (X : Cx) (WW : WX) : Option Expr → Option W → Prop where
  | none : SO X WW none none
  | some {e : Expr} {w : W} : PE X e (tm X.K X.mg WW w) → SO X WW (some e) (some w)
def tpo (K : PySem.W.Frag) (mg : Str → Option Value) (WW : WX) : Option W → TO
  | none => tNoPart
  | some w => tPart (tm K mg WW w)
theorem SO.po {o : Option Expr} {w : Option W} (h : SO X WW o w) : PO X o (tpo X.K X.mg WW w) := by
  cases h with
  | none => exact po_none
  | some h => exact po_some h
theorem part_of {o : Option W} {k : Option Int → W} {φ : List Addr} {ρ : DEnv} {S : Store} {σ : L2.St} {H : Hp} {Q : VK} (q : tmA X.K X.mg WW φ ρ S (wPart o k) σ H Q) {R : Option Int → Hp → Prop}
    (h : ∀ l φ1 S1 H1, Ext φ H φ1 H1 → tmA X.K X.mg WW φ1 ρ S1 (k l) σ H1 Q → R l H1) : tpo X.K X.mg WW o σ H R := by
  cases o with
  | none => exact h none φ S H Ext.refl q
  | some w =>
    obtain ⟨rs, re, Q1, E1, w1, n1, x1⟩ := (show tmA X.K X.mg WW φ ρ S (bindW w fun d => match d with | .int i => k (some i) | _ => fail) σ H Q from q).bind
    refine ⟨φ, ρ, S, rs, re, Q1, E1, w1, fun d S1 h1 v φ1 H1 e1 rs1 rd1 => ?_, x1⟩
    obtain ⟨d1, φ2, S2, e2, rd2, q2⟩ := n1 d S1 h1 v φ1 H1 e1 rs1 rd1
    cases d1 with
    | int i => exact ⟨i, rd2.int_inv, h (some i) φ2 S2 H1 e2 q2⟩
    | _ => exact q2.no.elim
theorem se_sl {lo hi : Option Expr} {wl wh : Option W} (ha : PE X e (tm X.K X.mg WW wa)) (hl : SO X WW lo wl) (hh : SO X WW hi wh) : PE X (.Subscript e (.Slice lo hi none p2) pos) (tm X.K X.mg WW (wSl wa wl wh)) := by
  refine PE.conv (pe_slice ((sl_list.or sl_str).or sl_tup) ha hl.po hh.po) fun σ H Q q => ?_
  refine tm_bind q fun d v φ ρ S H1 rd q1 => ?_
  refine part_of (X := X) q1 fun l φ2 S2 H2 e2 q2 => ?_
  refine part_of (X := X) q2 fun h φ3 S3 H3 e3 q3 => ?_
  exact pr_sl ((rd.mono e2).mono e3) q3

/-! ### comprehensions as expressions -/
theorem se_lc {b : Tg} {g : TG} (hc : X.calm = true) (hN : X.N.Nodup) (hi : PE X iter (tm X.K X.mg WW w)) (ok : BlkOk X.N X.env.scope scope own) (hv : own.map (·.2) = vs) (hg : Blk X scope fun Y => PG Y tg g)
    (ho : ∀ φ ρ σ0 H d v (k : DEnv → Prop) (Q : L2.St → Hp → Prop), RE X.K φ H ρ (L2.wipe σ0 vs) → RD X.K φ H d v → b d ρ k → (∀ ρ' σ', k ρ' → RE X.K φ H ρ' σ' → L2.wipe σ' vs = L2.wipe σ0 vs → Q σ' H) → g v (L2.wipe σ0 vs) H Q)
    (ht : Blk X scope fun Y => PTs Y ifs (ttm X.K X.mg NoW ce)) (he : Blk X scope fun Y => PE Y elt (tm X.K X.mg NoW ee)) (hs : ∀ x, foldedSetIterable iter X.env x = pure x := by intro _; rfl) :
    PE X (.ListComp elt [⟨tg, iter, ifs, 0⟩] scope pos) (tm X.K X.mg WW (wComp vs b w ce ee)) := by
  subst hv
  exact PE.conv (pe_lc hc hN (pi_list hi) ok hg ht he hs) fun σ H Q q => lc_go ho σ H Q q
theorem se_lcT {b : Tg} {g : TG} (hc : X.calm = true) (hN : X.N.Nodup) (hi : PE X iter (tm X.K X.mg WW w)) (ok : BlkOk X.N X.env.scope scope own) (hv : own.map (·.2) = vs) (hg : Blk X scope fun Y => PG Y tg g)
    (ho : ∀ φ ρ σ0 H d v (k : DEnv → Prop) (Q : L2.St → Hp → Prop), RE X.K φ H ρ (L2.wipe σ0 vs) → RD X.K φ H d v → b d ρ k → (∀ ρ' σ', k ρ' → RE X.K φ H ρ' σ' → L2.wipe σ' vs = L2.wipe σ0 vs → Q σ' H) → g v (L2.wipe σ0 vs) H Q)
    (ht : Blk X scope fun Y => PTs Y ifs (ttm X.K X.mg NoW ce)) (he : Blk X scope fun Y => PE Y elt (tm X.K X.mg NoW ee)) (hs : ∀ x, foldedSetIterable iter X.env x = pure x := by intro _; rfl) :
    PE X (.ListComp elt [⟨tg, iter, ifs, 0⟩] scope pos) (tm X.K X.mg WW (wCompT vs b w ce ee)) := by
  subst hv
  exact PE.conv (pe_lc hc hN (pi_tup hi) ok hg ht he hs) fun σ H Q q => lc_goT ho σ H Q q
theorem se_lcR1 {b : Tg} {g : TG} {p p3 : Pos} (hc : X.calm = true) (hN : X.N.Nodup) (hgl : Gl X "range") (hm : X.mg "range" = none) (hi : PE X a (tm X.K X.mg WW w)) (ok : BlkOk X.N X.env.scope scope own) (hv : own.map (·.2) = vs) (hg : Blk X scope fun Y => PG Y tg g)
    (ho : ∀ φ ρ σ0 H d v (k : DEnv → Prop) (Q : L2.St → Hp → Prop), RE X.K φ H ρ (L2.wipe σ0 vs) → RD X.K φ H d v → b d ρ k → (∀ ρ' σ', k ρ' → RE X.K φ H ρ' σ' → L2.wipe σ' vs = L2.wipe σ0 vs → Q σ' H) → g v (L2.wipe σ0 vs) H Q)
    (ht : Blk X scope fun Y => PTs Y ifs (ttm X.K X.mg NoW ce)) (he : Blk X scope fun Y => PE Y elt (tm X.K X.mg NoW ee)) (hst : starEach [a] X.env = [(false, eval a X.env)] := by rfl) (hst2 : starEach [a] X.env = (false, eval a X.env) :: starEach [] X.env := by rfl)
    (hs : ∀ x, foldedSetIterable (.Call (.Name "range" p) [a] [] p3) X.env x = pure x := by intro _; rfl) :
    PE X (.ListComp elt [⟨tg, .Call (.Name "range" p) [a] [] p3, ifs, 0⟩] scope pos) (tm X.K X.mg WW (wCompR1 vs b w ce ee)) := by
  subst hv
  exact PE.conv (pe_lc hc hN (pi_range1 hgl hm (pa_cons hi pa_nil hst2) hst) ok hg ht he hs) fun σ H Q q => lc_goR1 ho σ H Q q
theorem se_lcR2 {b : Tg} {g : TG} {p p3 : Pos} {e2 : Expr} {wu : W} (hc : X.calm = true) (hN : X.N.Nodup) (hgl : Gl X "range") (hm : X.mg "range" = none) (hi : PE X a (tm X.K X.mg WW w)) (hi2 : PE X e2 (tm X.K X.mg WW wu)) (ok : BlkOk X.N X.env.scope scope own) (hv : own.map (·.2) = vs) (hg : Blk X scope fun Y => PG Y tg g)
    (ho : ∀ φ ρ σ0 H d v (k : DEnv → Prop) (Q : L2.St → Hp → Prop), RE X.K φ H ρ (L2.wipe σ0 vs) → RD X.K φ H d v → b d ρ k → (∀ ρ' σ', k ρ' → RE X.K φ H ρ' σ' → L2.wipe σ' vs = L2.wipe σ0 vs → Q σ' H) → g v (L2.wipe σ0 vs) H Q)
    (ht : Blk X scope fun Y => PTs Y ifs (ttm X.K X.mg NoW ce)) (he : Blk X scope fun Y => PE Y elt (tm X.K X.mg NoW ee))
    (hst : starEach [a, e2] X.env = [(false, eval a X.env), (false, eval e2 X.env)] := by rfl) (hst2 : starEach [e2] X.env = [(false, eval e2 X.env)] := by rfl)
    (hst3 : starEach [a, e2] X.env = (false, eval a X.env) :: starEach [e2] X.env := by rfl) (hst4 : starEach [e2] X.env = (false, eval e2 X.env) :: starEach [] X.env := by rfl)
    (hs : ∀ x, foldedSetIterable (.Call (.Name "range" p) [a, e2] [] p3) X.env x = pure x := by intro _; rfl) :
    PE X (.ListComp elt [⟨tg, .Call (.Name "range" p) [a, e2] [] p3, ifs, 0⟩] scope pos) (tm X.K X.mg WW (wCompR2 vs b w wu ce ee)) := by
  subst hv
  exact PE.conv (pe_lc hc hN (pi_range2 hgl hm (pa_cons hi (pa_cons hi2 pa_nil hst4) hst3) hst hst2) ok hg ht he hs) fun σ H Q q => lc_goR2 ho σ H Q q
/-- name = [..], by any of them -/
theorem ss_setLc {i : Nat} {y : Str} {py spos : Pos} {g : TG} {wi : TI} (hc : X.calm = true) (hN : X.N.Nodup) (hy : X.N[i]? = some y) (hyl : X.env.scope.names.lookup y = some .local)
    (hsw : swapsWith (.ListComp elt [⟨tg, iter, ifs, 0⟩] scope pos) (some (.Name y py)) spos.line X.env = pure true) (hi : PI X tg iter wi) (ok : BlkOk X.N X.env.scope scope own) (hv : own.map (·.2) = vs) (hg : Blk X scope fun Y => PG Y tg g)
    (hgo : ∀ σ H Q, tm X.K X.mg WW w σ H Q → tLc wi g (ttm X.K X.mg NoW ce) (tm X.K X.mg NoW ee) vs σ H Q)
    (ht : Blk X scope fun Y => PTs Y ifs (ttm X.K X.mg NoW ce)) (he : Blk X scope fun Y => PE Y elt (tm X.K X.mg NoW ee)) (hs : ∀ x, foldedSetIterable iter X.env x = pure x := by intro _; rfl) :
    PS X (.Assign [.Name y py] (.ListComp elt [⟨tg, iter, ifs, 0⟩] scope pos) spos) (tsm X.K X.mg WW (wsSet i w)) := by
  subst hv
  refine PS.conv (L2.ps_setLc hc hN hy hyl hsw hi ok hg ht he hs) fun D σ H q => ?_
  refine hgo σ H _ (ts_ex0 (k := fun d => fun ρ S D E => D.nx (ρ.set i (some d)) S) q fun d v φ1 ρ S1 H1 rd ⟨rs, re, D', E', hw, hn, hr, hx⟩ => hn _ _ hw _ _ _ Ext.refl rs (re.set rd i))

/-! ### built-ins -/
def bLen : BPf
  | [d] => pLen d
  | _ => fail
def bAbs : BPf
  | [.int i] => ret (.int (if i < 0 then -i else i))
  | _ => fail
def bMax : BPf
  | [.int i, .int j] => ret (.int (if j > i then j else i))
  | _ => fail
def bMin : BPf
  | [.int i, .int j] => ret (.int (if j < i then j else i))
  | _ => fail
def bInt : BPf
  | [.int i] => ret (.int i)
  | [.bl k] => ret (.int (if k then 1 else 0))
  | _ => fail
def bBool : BPf
  | [.int i] => ret (.bl (i != 0))
  | [.bl k] => ret (.bl k)
  | _ => fail
def bStr : BPf
  | [.int i] => fun _ S Q _ => i.natAbs.log2 < 1920 ∧ Q (.str (toString i)) S
  | _ => fail
def bList : BPf
  | [.ref n] => fun _ S Q _ => ∃ xs, S[n]? = some (.lst xs) ∧ Q (.ref S.length) (S ++ [.lst xs])
  | [.tup xs] => fun _ S Q _ => xs.length ≤ 1000 ∧ Q (.ref S.length) (S ++ [.lst xs])
  | _ => fail
def bTuple : BPf
  | [.ref n] => fun _ S Q _ => ∃ xs, S[n]? = some (.lst xs) ∧ Q (.tup xs) S
  | [.tup xs] => ret (.tup xs)
  | _ => fail
end
section
variable {K : PySem.W.Frag} {mg : Str → Option Value} {WW : WX} {φ : List Addr} {S : Store} {H : Hp} {vs : List V} {d d2 : D}
theorem RDs.one (h : RDs K φ H [d] vs) : ∃ v, vs = [v] ∧ RD K φ H d v := by
  obtain ⟨v, r, rfl, h1, h2⟩ := h.inv
  have : r = [] := by simpa [RDs] using h2
  subst this; exact ⟨v, rfl, h1⟩
theorem RDs.two (h : RDs K φ H [d, d2] vs) : ∃ v w, vs = [v, w] ∧ RD K φ H d v ∧ RD K φ H d2 w := by
  obtain ⟨v, r, rfl, h1, h2⟩ := h.inv
  obtain ⟨w, rfl, h3⟩ := h2.one
  exact ⟨v, w, rfl, h1, h3⟩
theorem pb_len : PrB K mg WW bLen (fun xs H Q => ∃ x n, xs = [x] ∧ LenV K x H n ∧ Q (.int n) H) := by
  intro φ ρ S σ H Q ds vs r h
  unfold bLen at h
  split at h
  · obtain ⟨v, rfl, q0⟩ := r.one
    unfold pLen at h
    split at h
    · obtain ⟨rs, re, Q', E', ⟨xs, h1, hq⟩, hn, hx⟩ := h
      obtain ⟨a1, v1, rfl, _, e1, q1, _⟩ := rs.lst h1 q0
      exact ⟨_, xs.length, rfl, .inl ⟨v1, SqL.of e1, q1.length⟩, hn _ _ hq _ _ _ Ext.refl rs RD.int⟩
    · simp only [RD] at q0
      obtain ⟨a1, v1, rfl, e1, q1⟩ := q0
      exact ⟨_, _, rfl, .inr ⟨v1, SqT.of e1, q1.length⟩, h.ret RD.int⟩
    · simp only [RD] at q0
      obtain ⟨a1, v1, rfl, e1, q1⟩ := q0
      exact ⟨_, _, rfl, .inl ⟨v1, e1.seq, q1.length⟩, h.ret RD.int⟩
    · obtain ⟨rs, re, Q', E', ⟨hz, hq⟩, hn, hx⟩ := h
      rw [q0.str_inv]
      exact ⟨_, _, rfl, ⟨hz, rfl⟩, hn _ _ hq _ _ _ Ext.refl rs RD.int⟩
    · exact h.no.elim
  · exact h.no.elim
theorem pb_abs : PrB K mg WW bAbs (fun xs H Q => ∃ i, xs = [.int i] ∧ Q (.int (if i < 0 then -i else i)) H) := by
  intro φ ρ S σ H Q ds vs r h
  unfold bAbs at h
  split at h
  · obtain ⟨v, rfl, q0⟩ := r.one
    rw [q0.int_inv]
    exact ⟨_, rfl, h.ret RD.int⟩
  · exact h.no.elim
theorem pb_max : PrB K mg WW bMax (fun xs H Q => ∃ i j, xs = [.int i, .int j] ∧ Q (.int (if j > i then j else i)) H) := by
  intro φ ρ S σ H Q ds vs r h
  unfold bMax at h
  split at h
  · obtain ⟨v, w, rfl, r1, r2⟩ := r.two
    rw [r1.int_inv, r2.int_inv]
    exact ⟨_, _, rfl, h.ret RD.int⟩
  · exact h.no.elim
theorem pb_min : PrB K mg WW bMin (fun xs H Q => ∃ i j, xs = [.int i, .int j] ∧ Q (.int (if j < i then j else i)) H) := by
  intro φ ρ S σ H Q ds vs r h
  unfold bMin at h
  split at h
  · obtain ⟨v, w, rfl, r1, r2⟩ := r.two
    rw [r1.int_inv, r2.int_inv]
    exact ⟨_, _, rfl, h.ret RD.int⟩
  · exact h.no.elim
theorem pb_int : PrB K mg WW bInt (fun xs H Q => (∃ i, xs = [.int i] ∧ Q (.int i) H) ∨ ∃ k, xs = [.bl k] ∧ Q (.int (if k then 1 else 0)) H) := by
  intro φ ρ S σ H Q ds vs r h
  unfold bInt at h
  split at h
  · obtain ⟨v, rfl, q0⟩ := r.one
    rw [q0.int_inv]
    exact .inl ⟨_, rfl, h.ret RD.int⟩
  · obtain ⟨v, rfl, q0⟩ := r.one
    rw [q0.bl_inv]
    exact .inr ⟨_, rfl, h.ret RD.int⟩
  · exact h.no.elim
theorem pb_bool : PrB K mg WW bBool (fun xs H Q => (∃ i, xs = [.int i] ∧ Q (.bl (i != 0)) H) ∨ ∃ k, xs = [.bl k] ∧ Q (.bl k) H) := by
  intro φ ρ S σ H Q ds vs r h
  unfold bBool at h
  split at h
  · obtain ⟨v, rfl, q0⟩ := r.one
    rw [q0.int_inv]
    exact .inl ⟨_, rfl, h.ret RD.bl⟩
  · obtain ⟨v, rfl, q0⟩ := r.one
    rw [q0.bl_inv]
    exact .inr ⟨_, rfl, h.ret RD.bl⟩
  · exact h.no.elim
theorem pb_str : PrB K mg WW bStr (fun xs H Q => ∃ i, xs = [.int i] ∧ i.natAbs.log2 < 1920 ∧ Q (.str (toString i)) H) := by
  intro φ ρ S σ H Q ds vs r h
  unfold bStr at h
  split at h
  · obtain ⟨v, rfl, q0⟩ := r.one
    rw [q0.int_inv]
    obtain ⟨rs, re, Q', E', ⟨hz, hq⟩, hn, hx⟩ := h
    exact ⟨_, rfl, hz, hn _ _ hq _ _ _ Ext.refl rs RD.str⟩
  · exact h.no.elim
theorem pb_list : PrB K mg WW bList (fun xs H Q => ∃ p ys, xs = [.ref p] ∧ (SqL K H p ys ∨ SqT K H p ys) ∧ ∀ l, H l = none → Q (.ref l) (upd H l (.lst ys))) := by
  intro φ ρ S σ H Q ds vs r h
  unfold bList at h
  split at h
  · obtain ⟨v, rfl, q0⟩ := r.one
    obtain ⟨rs, re, Q', E', ⟨xs, h1, hq⟩, hn, hx⟩ := h
    obtain ⟨a1, v1, rfl, _, e1, q1, z⟩ := rs.lst h1 q0
    exact ⟨a1, v1, rfl, .inl (SqL.of e1), fun p hp => mk_list rs q1 z hn hq p hp⟩
  · obtain ⟨v, rfl, q0⟩ := r.one
    obtain ⟨rs, re, Q', E', ⟨hz, hq⟩, hn, hx⟩ := h
    simp only [RD] at q0
    obtain ⟨a1, v1, rfl, e1, q1⟩ := q0
    exact ⟨a1, v1, rfl, .inr (SqT.of e1), fun p hp => mk_list rs q1 (Nat.le_of_lt (small1000 hz)) hn hq p hp⟩
  · exact h.no.elim
theorem pb_tuple : PrB K mg WW bTuple (fun xs H Q => ∃ p ys, xs = [.ref p] ∧ ((SqL K H p ys ∧ ∀ l, H l = none → Q (.ref l) (upd H l (.tup ys))) ∨ (SqT K H p ys ∧ Q (.ref p) H))) := by
  intro φ ρ S σ H Q ds vs r h
  unfold bTuple at h
  split at h
  · obtain ⟨v, rfl, q0⟩ := r.one
    obtain ⟨rs, re, Q', E', ⟨xs, h1, hq⟩, hn, hx⟩ := h
    obtain ⟨a1, v1, rfl, _, e1, q1, z⟩ := rs.lst h1 q0
    exact ⟨a1, v1, rfl, .inl ⟨SqL.of e1, fun p hp => mk_tup rs q1 hn hq p hp⟩⟩
  · obtain ⟨v, rfl, q0⟩ := r.one
    have r' := q0
    simp only [RD] at q0
    obtain ⟨a1, v1, rfl, e1, q1⟩ := q0
    exact ⟨a1, v1, rfl, .inr ⟨SqT.of e1, h.ret r'⟩⟩
  · exact h.no.elim
end
/-! ### isinstance with a built-in class -/
def tyName (S : Store) : D → Option String
  | .non => some "NoneType"
  | .bl _ => some "bool"
  | .int _ => some "int"
  | .str _ => some "str"
  | .tup _ => some "tuple"
  | .rol _ => none
  | .adr _ => none
  | .ref n => match S[n]? with
    | some (.lst _) => some "list"
    | some (.dct _) => some "dict"
    | _ => none
def isi (a b : String) : Bool := decide (a = b) || (decide (a = "bool") && decide (b = "int"))
def pIsi (T : String) (d : D) : W := fun _ S Q _ => ∃ a, tyName S d = some a ∧ Q (.bl (isi a T)) S
theorem kit_isi : ∀ a ∈ (["NoneType", "bool", "int", "str", "tuple", "list", "dict"] : List String), ∀ b ∈ (["bool", "int", "str", "tuple", "list", "dict"] : List String), kitB a b = some (isi a b) := by decide +kernel
theorem tyName_ok {K : PySem.W.Frag} {mg : Str → Option Value} {φ : List Addr} {S : Store} {H : Hp} {d : D} {v : V} {a : String} (rs : RS K mg φ S H) (r : RD K φ H d v) (h : tyName S d = some a) : TyX K H v (.type a) ∧ a ∈ (["NoneType", "bool", "int", "str", "tuple", "list", "dict"] : List String) := by
  cases d with
  | non => cases h; rw [r.non_inv]; exact ⟨.base .non, by decide⟩
  | bl b => cases h; rw [r.bl_inv]; exact ⟨.base (.bl b), by decide⟩
  | int b => cases h; rw [r.int_inv]; exact ⟨.base (.int b), by decide⟩
  | str b => cases h; rw [r.str_inv]; exact ⟨.base (.str b), by decide⟩
  | tup ds =>
    cases h
    simp only [RD] at r
    obtain ⟨a1, v1, rfl, e1, q1⟩ := r
    exact ⟨.base (.tup e1), by decide⟩
  | rol ds => cases h
  | adr a => cases h
  | ref n =>
    simp only [tyName] at h
    split at h
    · cases h
      obtain ⟨a1, v1, rfl, _, e1, q1, z⟩ := rs.lst (by assumption) r
      exact ⟨.base (.lst e1), by decide⟩
    · cases h
      rename_i kvs hk
      simp only [RD] at r
      obtain ⟨a1, ha, rfl⟩ := r
      obtain ⟨vs, e1, _⟩ := rs.cell n _ a1 hk ha
      exact ⟨.base (.dK e1), by decide⟩
    · cases h
section
variable {X : Cx} {WW : WX} {a e o : Expr} {es : List Expr} {pos p p2 : Pos} {wa : W}
theorem se_isi {T : String} {x : Str} (hT : T ∈ (["bool", "int", "str", "tuple", "list", "dict"] : List String)) (hg : Gl X "isinstance") (hm : X.mg "isinstance" = none) (hgT : Gl X x) (hmT : X.mg x = none) (hvT : bootBuiltins x = some (.type T)) (ha : PE X a (tm X.K X.mg WW wa))
    (hn : x ≠ "__name__" := by decide) (hd : (x == ("__debug__" : Str)) = false := by decide)
    (hs1 : starEach [a, .Name x p2] X.env = (false, eval a X.env) :: starEach [.Name x p2] X.env := by rfl) (hs2 : starEach [.Name x p2] X.env = (false, eval (.Name x p2) X.env) :: starEach [] X.env := by rfl) (hpl : (backTo pos (starEach [.Name x p2] X.env)).any (·.1) = false := by rfl) :
    PE X (.Call (.Name "isinstance" p) [a, .Name x p2] [] pos) (tm X.K X.mg WW (wOp1 (pIsi T) wa)) := by
  refine PE.conv (pe_callB call_isi hg hm PyProof.Rows.boot_isinstance (pa_cons ha (pa_cons (pe_bltn (v := .ty T) hgT hmT hvT rfl hn hd) pa_nil hs2) hs1) (by decide) (by decide) hs1 hpl) fun σ H Q q => ?_
  refine tm_bind q fun d v φ ρ S H1 rd ⟨rs, re, Q', E', ⟨a, ht, hq⟩, hn, hx⟩ => ?_
  obtain ⟨ty, hm⟩ := tyName_ok rs rd ht
  exact ⟨v, .ty T, _, _, isi a T, rfl, .ty T, ty, kit_ty (kit_isi a hm T hT), hn _ _ hq _ _ _ Ext.refl rs RD.bl⟩
end

/-! ### methods of built-in types -/
def isT (T : String) (S : Store) : D → Prop
  | .ref n => (T = "list" ∧ ∃ xs, S[n]? = some (.lst xs)) ∨ (T = "dict" ∧ ∃ ks, S[n]? = some (.dct ks))
  | .str _ => T = "str"
  | _ => False
def wM (T : String) (m : D → List D → W) (wo : W) (ws : List W) : W := fun ρ S Q E => wo ρ S (fun d S1 => isT T S1 d ∧ evWs ws ρ S1 (fun ds S2 => m d ds ρ S2 Q E) E) E
def PrM (K : PySem.W.Frag) (mg : Str → Option Value) (WW : WX) (m : D → List D → W) (r : V → List V → Hp → VK → Prop) : Prop := ∀ φ ρ S σ H Q d ds x vs, RD K φ H d x → RDs K φ H ds vs → tmA K mg WW φ ρ S (m d ds) σ H Q → r x vs H Q
theorem isT_ok {K : PySem.W.Frag} {mg : Str → Option Value} {φ : List Addr} {S : Store} {H : Hp} {d : D} {v : V} {T : String} (rs : RS K mg φ S H) (r : RD K φ H d v) (h : isT T S d) : tyV K T v H := by
  cases d with
  | ref n =>
    rcases h with ⟨rfl, xs, h⟩ | ⟨rfl, ks, h⟩
    · obtain ⟨a1, v1, rfl, _, e1, q1, z⟩ := rs.lst h r
      exact .inl ⟨rfl, _, SqL.of e1⟩
    · simp only [RD] at r
      obtain ⟨a1, ha, rfl⟩ := r
      obtain ⟨vs, e1, _⟩ := rs.cell n _ a1 h ha
      exact .inr (.inr (.inl ⟨rfl, .inl ⟨vs, e1⟩⟩))
  | str x => rw [r.str_inv]; exact h
  | _ => exact h.elim
section
variable {X : Cx} {WW : WX} {a e o : Expr} {es : List Expr} {pos p p2 apos cpos : Pos} {wo : W} {ws : List W} {T name id : String} {r : V → List V → Hp → VK → Prop} {m : D → List D → W}
theorem wM_go (hm : PrM X.K X.mg WW m r) (σ : L2.St) (H : Hp) (Q : VK) (q : tm X.K X.mg WW (wM T m wo ws) σ H Q) : tBM X.K T r (tm X.K X.mg WW wo) (tma X.K X.mg WW ws) σ H Q := by
  obtain ⟨φ, ρ, S, rs, re, Q', E', hw, hn, hx⟩ := q
  refine ⟨φ, ρ, S, rs, re, _, E', hw, fun d S1 ⟨ht, h1⟩ v φ1 H1 x1 rs1 rd1 => ⟨isT_ok rs1 rd1 ht, ?_⟩, hx⟩
  refine ⟨φ1, ρ, S1, rs1, re.mono x1, _, E', h1, fun ds S2 h2 vs φ2 H2 x2 rs2 rd2 => ?_, fun c ρ2 S2 a u φ2 H2 σ2 x => hx c ρ2 S2 a u φ2 H2 σ2 (x1.trans x)⟩
  exact hm φ2 ρ S2 σ H2 Q d ds v vs (rd1.mono x2) rd2 ⟨rs2, (re.mono x1).mono x2, Q', E', h2, fun d3 S3 a v3 φ3 H3 x => hn d3 S3 a v3 φ3 H3 ((x1.trans x2).trans x), fun c ρ2 S2 a u φ2 H2 σ2 x => hx c ρ2 S2 a u φ2 H2 σ2 ((x1.trans x2).trans x)⟩
theorem wM_go0 (hm : PrM X.K X.mg WW m r) (σ : L2.St) (H : Hp) (Q : VK) (q : tm X.K X.mg WW (wM T m wo []) σ H Q) : tBM0 X.K T r (tm X.K X.mg WW wo) σ H Q := by
  obtain ⟨φ, ρ, S, rs, re, Q', E', hw, hn, hx⟩ := q
  refine ⟨φ, ρ, S, rs, re, _, E', hw, fun d S1 ⟨ht, h1⟩ v φ1 H1 x1 rs1 rd1 => ⟨isT_ok rs1 rd1 ht, ?_⟩, hx⟩
  exact hm φ1 ρ S1 σ H1 Q d [] v [] rd1 RDs.nil ⟨rs1, re.mono x1, Q', E', h1, fun d3 S3 a v3 φ3 H3 x => hn d3 S3 a v3 φ3 H3 (x1.trans x), fun c ρ2 S2 a u φ2 H2 σ2 x => hx c ρ2 S2 a u φ2 H2 σ2 (x1.trans x)⟩
end
def mAppend : D → List D → W
  | .ref n, [d] => fun _ S Q _ => ∃ xs, S[n]? = some (.lst xs) ∧ xs.length < sizeLine ∧ Q .non (S.set n (.lst (xs ++ [d])))
  | _, _ => fail
def mPop : D → List D → W
  | .ref n, [] => fun _ S Q _ => ∃ xs d, S[n]? = some (.lst xs) ∧ xs[xs.length - 1]? = some d ∧ Q d (S.set n (.lst xs.dropLast))
  | _, _ => fail
def mPopAt : D → List D → W
  | .ref n, [.int i] => fun _ S Q _ => ∃ xs d k, S[n]? = some (.lst xs) ∧ -(2 ^ 63) ≤ i ∧ i < 2 ^ 63 ∧ seqIndex? i xs.length = some k ∧ xs[k]? = some d ∧ Q d (S.set n (.lst (xs.eraseIdx k)))
  | _, _ => fail
def mClear : D → List D → W
  | .ref n, [] => fun _ S Q _ => ∃ xs, S[n]? = some (.lst xs) ∧ Q .non (S.set n (.lst []))
  | _, _ => fail
section
variable {K : PySem.W.Frag} {mg : Str → Option Value} {WW : WX}
theorem wr_list {Q' : PQ} {φ : List Addr} {S : Store} {H : Hp} {Q : VK} {n : Nat} {a : Addr} {d : D} {v : V} {xs ds : List D} {vs : List V} (rs : RS K mg φ S H) (ha : φ[n]? = some a) (r : RDs K φ H ds vs) (hl : ds.length ≤ sizeLine) (rv : RD K φ H d v)
    (hn : ∀ d S', Q' d S' → ∀ v φ' H', Ext φ H φ' H' → RS K mg φ' S' H' → RD K φ' H' d v → Q v H') (hq : Q' d (S.set n (.lst ds))) : Q v (upd H a (.lst vs)) := by
  have ex := Ext.write (o := .lst vs) rs (List.mem_of_getElem? ha)
  exact hn _ _ hq _ _ _ ex (rs.write ha ⟨_, upd_same, r.mono ex, hl⟩) (rv.mono ex)
theorem pm_append : PrM K mg WW mAppend rAppend := by
  intro φ ρ S σ H Q d ds x vs r1 r2 h
  unfold mAppend at h
  split at h
  · obtain ⟨v, rfl, r⟩ := r2.one
    obtain ⟨rs, re, Q', E', ⟨xs, h1, hz, hq⟩, hn, hx⟩ := h
    obtain ⟨a1, v1, rfl, ha, e1, q1, z⟩ := rs.lst h1 r1
    refine ⟨a1, v1, v, rfl, rfl, e1, by rw [← q1.length]; exact hz, ?_⟩
    exact wr_list (xs := xs) rs ha (q1.append (RDs.cons r RDs.nil)) (by simp; omega) RD.non hn hq
  · exact h.no.elim
theorem pm_pop : PrM K mg WW mPop rPop := by
  intro φ ρ S σ H Q d ds x vs r1 r2 h
  unfold mPop at h
  split at h
  · have : vs = [] := by simpa [RDs] using r2
    subst this
    obtain ⟨rs, re, Q', E', ⟨xs, d, h1, hd, hq⟩, hn, hx⟩ := h
    obtain ⟨a1, v1, rfl, ha, e1, q1, z⟩ := rs.lst h1 r1
    obtain ⟨y, hy, ry⟩ := q1.get hd
    refine ⟨a1, v1, y, rfl, rfl, e1, by rw [← q1.length]; exact hy, ?_⟩
    exact wr_list (xs := xs) rs ha q1.dropLast (by simp; omega) ry hn hq
  · exact h.no.elim
theorem pm_popAt : PrM K mg WW mPopAt rPopAt := by
  intro φ ρ S σ H Q d ds x vs r1 r2 h
  unfold mPopAt at h
  split at h
  · obtain ⟨v, rfl, r⟩ := r2.one
    rw [r.int_inv]
    obtain ⟨rs, re, Q', E', ⟨xs, d, k, h1, hl, hh, hk, hd, hq⟩, hn, hx⟩ := h
    obtain ⟨a1, v1, rfl, ha, e1, q1, z⟩ := rs.lst h1 r1
    obtain ⟨y, hy, ry⟩ := q1.get hd
    refine ⟨a1, v1, _, k, y, rfl, rfl, e1, hl, hh, by rw [← q1.length]; exact hk, hy, ?_⟩
    exact wr_list (xs := xs) rs ha (q1.eraseIdx k) (by rw [List.length_eraseIdx]; split <;> omega) ry hn hq
  · exact h.no.elim
theorem pm_clear : PrM K mg WW mClear rClear := by
  intro φ ρ S σ H Q d ds x vs r1 r2 h
  unfold mClear at h
  split at h
  · have : vs = [] := by simpa [RDs] using r2
    subst this
    obtain ⟨rs, re, Q', E', ⟨xs, h1, hq⟩, hn, hx⟩ := h
    obtain ⟨a1, v1, rfl, ha, e1, q1, z⟩ := rs.lst h1 r1
    exact ⟨a1, v1, rfl, rfl, e1, wr_list (xs := xs) rs ha RDs.nil (Nat.zero_le _) RD.non hn hq⟩
  · exact h.no.elim
end
section
variable {X : Cx} {WW : WX} {e o : Expr} {es : List Expr} {apos cpos : Pos} {wo wa : W} {ws : List W}
theorem se_append (ho : PE X o (tm X.K X.mg WW wo)) (ha : PE X e (tm X.K X.mg WW wa)) (hbase : attributeBase o "append" X.env (eval o X.env) = eval o X.env := by rfl)
    (hs0 : starEach [e] X.env = (false, eval e X.env) :: starEach [] X.env := by rfl)
    (hfew : ((backTo cpos (starEach [e] X.env)).all (fun x => !x.1) && (backToKw cpos (keywordEach [] X.env)).all (fun x => x.1.isSome) && decide (([e] : List Expr).length + ([] : List Keyword).length + (if ([] : List Keyword).isEmpty then 0 else 1) < 30)) = true := by rfl)
    (hline : (apos.endLine == cpos.line) = true := by rfl) (hplain : (backTo cpos (starEach [] X.env)).any (·.1) = false := by rfl) : PE X (.Call (.Attribute o "append" apos) [e] [] cpos) (tm X.K X.mg WW (wM "list" mAppend wo [wa])) :=
  PE.conv (pe_bm PySem.F.plainAttrs_list PySem.F.slot_list_append PySem.F.type_list_append mt_append ho (sa_cons ha sa_nil hs0) hbase hfew hline hs0 hplain) (wM_go pm_append)
theorem se_popAt (ho : PE X o (tm X.K X.mg WW wo)) (ha : PE X e (tm X.K X.mg WW wa)) (hbase : attributeBase o "pop" X.env (eval o X.env) = eval o X.env := by rfl)
    (hs0 : starEach [e] X.env = (false, eval e X.env) :: starEach [] X.env := by rfl)
    (hfew : ((backTo cpos (starEach [e] X.env)).all (fun x => !x.1) && (backToKw cpos (keywordEach [] X.env)).all (fun x => x.1.isSome) && decide (([e] : List Expr).length + ([] : List Keyword).length + (if ([] : List Keyword).isEmpty then 0 else 1) < 30)) = true := by rfl)
    (hline : (apos.endLine == cpos.line) = true := by rfl) (hplain : (backTo cpos (starEach [] X.env)).any (·.1) = false := by rfl) : PE X (.Call (.Attribute o "pop" apos) [e] [] cpos) (tm X.K X.mg WW (wM "list" mPopAt wo [wa])) :=
  PE.conv (pe_bm PySem.F.plainAttrs_list PySem.F.slot_list_pop PySem.F.type_list_pop mt_popAt ho (sa_cons ha sa_nil hs0) hbase hfew hline hs0 hplain) (wM_go pm_popAt)
theorem se_pop (ho : PE X o (tm X.K X.mg WW wo)) (hbase : attributeBase o "pop" X.env (eval o X.env) = eval o X.env := by rfl) (hline : (apos.endLine == cpos.line) = true := by rfl) : PE X (.Call (.Attribute o "pop" apos) [] [] cpos) (tm X.K X.mg WW (wM "list" mPop wo [])) :=
  PE.conv (pe_bm0 PySem.F.plainAttrs_list PySem.F.slot_list_pop PySem.F.type_list_pop mt_pop ho hbase hline) (wM_go0 pm_pop)
theorem se_clear (ho : PE X o (tm X.K X.mg WW wo)) (hbase : attributeBase o "clear" X.env (eval o X.env) = eval o X.env := by rfl) (hline : (apos.endLine == cpos.line) = true := by rfl) : PE X (.Call (.Attribute o "clear" apos) [] [] cpos) (tm X.K X.mg WW (wM "list" mClear wo [])) :=
  PE.conv (pe_bm0 PySem.F.plainAttrs_list PySem.F.slot_list_clear PySem.F.type_list_clear mt_clear ho hbase hline) (wM_go0 pm_clear)
end
/-! ### tests by their operator -/
section
variable {X : Cx} {WW : WX} {a b c e : Expr} {es : List Expr} {pos p : Pos} {wa wb wc : W} {ws : List W}
theorem st_lt (ha : PE X a (tm X.K X.mg WW wa)) (hb : PE X b (tm X.K X.mg WW wb)) : PT X (.Compare a [.Lt] [b] pos) (ttm X.K X.mg WW (wOp pLt wa wb)) := st_cmp op_lt pr_lt ha hb (nomark _)
theorem st_le (ha : PE X a (tm X.K X.mg WW wa)) (hb : PE X b (tm X.K X.mg WW wb)) : PT X (.Compare a [.LtE] [b] pos) (ttm X.K X.mg WW (wOp pLe wa wb)) := st_cmp op_le pr_le ha hb (nomark _)
theorem st_gt (ha : PE X a (tm X.K X.mg WW wa)) (hb : PE X b (tm X.K X.mg WW wb)) : PT X (.Compare a [.Gt] [b] pos) (ttm X.K X.mg WW (wOp pGt wa wb)) := st_cmp op_gt pr_gt ha hb (nomark _)
theorem st_ge (ha : PE X a (tm X.K X.mg WW wa)) (hb : PE X b (tm X.K X.mg WW wb)) : PT X (.Compare a [.GtE] [b] pos) (ttm X.K X.mg WW (wOp pGe wa wb)) := st_cmp op_ge pr_ge ha hb (nomark _)
theorem st_eq (hu : X.A.units + 64 < cLine) (ha : PE X a (tm X.K X.mg WW wa)) (hb : PE X b (tm X.K X.mg WW wb)) : PT X (.Compare a [.Eq] [b] pos) (ttm X.K X.mg WW (wOp pEq wa wb)) := st_cmp (op_eq.or (op_eqD hu)) pr_eq ha hb (nomark _)
theorem st_ne (hu : X.A.units + 64 < cLine) (ha : PE X a (tm X.K X.mg WW wa)) (hb : PE X b (tm X.K X.mg WW wb)) : PT X (.Compare a [.NotEq] [b] pos) (ttm X.K X.mg WW (wOp pNe wa wb)) := st_cmp (op_ne.or (op_neD hu)) pr_ne ha hb (nomark _)
theorem st_isB (ha : PE X a (tm X.K X.mg WW wa)) (hb : PE X b (tm X.K X.mg WW wb)) : PT X (.Compare a [.Is] [b] pos) (ttm X.K X.mg WW (wOp pIsB wa wb)) := st_cmp op_isBl pr_isB ha hb (nomark _)
theorem st_notB (ha : PE X a (tm X.K X.mg WW wa)) (hb : PE X b (tm X.K X.mg WW wb)) : PT X (.Compare a [.IsNot] [b] pos) (ttm X.K X.mg WW (wOp pNotB wa wb)) := st_cmp op_notBl pr_notB ha hb (nomark _)
theorem st_isN {j : Nat} (ha : PE X a (tm X.K X.mg WW wa)) : PT X (.Compare a [.Is] [.Constant .none j p] pos) (ttm X.K X.mg WW (wOp1 pIsN wa)) := by
  refine PT.conv (pt_cmp (pc_isN ha) rfl) fun σ H Q q => ?_
  refine tm_bind q fun d v φ ρ S H1 rd q1 => ?_
  rw [isNon_iff rd]
  exact q1.ret RD.bl
theorem st_notN {j : Nat} (ha : PE X a (tm X.K X.mg WW wa)) : PT X (.Compare a [.IsNot] [.Constant .none j p] pos) (ttm X.K X.mg WW (wOp1 pNotN wa)) := by
  refine PT.conv (pt_cmp (pc_notN ha) rfl) fun σ H Q q => ?_
  refine tm_bind q fun d v φ ρ S H1 rd q1 => ?_
  rw [isNon_iff rd]
  exact q1.ret RD.bl
/-! ### the defs of the text -/
def Cal (P : Program) (w : World) (K : PySem.W.Frag) (mg : Str → Option Value) (base : Heap) (x : Str) (k : Nat) (ps : List Str) (sp : SPf) : Prop :=
  ∃ f fd, FnOk P w K mg base (L2.CX P w) k f fd ps (spOf K mg sp) ∧ mg x = some (.ref f) ∧ PySem.W.keepIn K (.ref f) = true ∧ Binds K fd ps []
theorem se_callC {x : Str} {j k : Nat} {ps : List Str} {sp : SPf} (c : Cal X.prog X.w X.K X.mg X.base x k ps sp) (hr : Room j X.A) (hk : k ≤ j) (hg : Gl X x) (tk : Takes X WW) (ha : PA X (e :: es) (tma X.K X.mg WW ws)) (hdb : (x == ("__debug__" : Str)) = false := by decide)
    (he : starEach (e :: es) X.env = (false, eval e X.env) :: starEach es X.env := by rfl) (hpl : (backTo pos (starEach es X.env)).any (·.1) = false := by rfl) : PE X (.Call (.Name x p) (e :: es) [] pos) (tm X.K X.mg WW (wCall sp ws [])) := by
  obtain ⟨f, fd, F, hm, hkp, hb⟩ := c
  exact se_call F (hr.mono hk) hg hm hkp hb .nil .nil tk ha hdb he hpl
end
theorem cal_ok {P : Program} {w : World} {K : PySem.W.Frag} {mg : Str → Option Value} {base : Heap} {x qual : Str} {st : Stmt} {f : Addr} {fd : FuncData} {N ps : List Str} {k : Nat} {sp : SPf} (F : Fun K x qual st f fd) (hm : mg x = some (.ref f)) (S : FnScope N ps (defScope st)) (b : Binds K fd ps []) (u : WS)
    (len : ∀ ds S Q E, sp ds S Q E → ds.length = ps.length)
    (hb : ∀ (cdv : Value) (A : Around) (outer : List Env) (s : Shared) (H : Hp) (E : XK), Room k (A.deeper (envOfC qual (defScope st) s.heap.objs.size f cdv)) →
      PSs (cxOf (L2.CX P w) P w K mg base N qual (defScope st) f cdv A outer s H E) (defBody st) (tsm K mg (fun cls d _ H => E cls d H) u))
    (ob : Ob N sp u) : Cal P w K mg base x (k + 1) ps sp := ⟨f, fd, fn_ok F S u len hb ob, hm, F.kp, b⟩
/-- what the names of the built-ins hold -/
structure Bi (mg : Str → Option Value) : Prop where
  len : mg "len" = none
  range : mg "range" = none
  isinstance : mg "isinstance" = none
  int : mg "int" = none
  bool : mg "bool" = none
  str : mg "str" = none
  tuple : mg "tuple" = none
  list : mg "list" = none
  dict : mg "dict" = none
  max : mg "max" = none
  min : mg "min" = none
  sorted : mg "sorted" = none
  sum : mg "sum" = none
  abs : mg "abs" = none
  zip : mg "zip" = none
/-- the law's own promise -/
def spLaw : SPf := fun ds S Q _ => ∃ ns : List Int, ds = [.rol (ns.map D.int)] ∧ ns.length ≤ 63 ∧ S = [] ∧ Q (.bl true) []
theorem rds_ints {K : PySem.W.Frag} {φ : List Addr} {H : Hp} : ∀ ns : List Int, RDs K φ H (ns.map D.int) (ns.map V.int)
  | [] => RDs.nil
  | n :: ns => RDs.cons RD.int (rds_ints ns)
theorem law_start {K : PySem.W.Frag} {mg : Str → Option Value} {H : Hp} {a : Addr} {ns : List Int} (hl : ns.length ≤ 63) (ho : L2.Only H) (hs : SqL K H a (ns.map V.int)) : spOf K mg spLaw [.ref a] H (fun v _ => v = .bl true) fun _ _ _ => False := by
  have ha : RolAt K H a (ns.map V.int) := by
    rcases hs with (h | ⟨o, h⟩) | h
    · rcases ho a with z | ⟨o, xs, z⟩
      · rw [h] at z; cases z
      · rw [h] at z; cases z
    · exact .inl ⟨o, h⟩
    · exact .inr ⟨.inr h, fun H' => .inr h⟩
  refine ⟨[], [], [.rol (ns.map D.int)], ⟨rfl, List.nodup_nil, fun n c a h _ => by simp at h⟩, RDs.cons ?_ RDs.nil, fun d S => d = .bl true, fun _ _ => False, ⟨ns, rfl, hl, rfl, rfl⟩, ?_, fun _ _ z => z.elim⟩
  · simp only [RD]
    exact ⟨a, _, rfl, ha, rds_ints ns⟩
  · intro d S e v φ' H' x rs rd
    subst e
    exact rd.bl_inv
theorem law_noCX {P : Program} {w : World} (H : Hp) (s : Shared) (e : Value) (s' : Shared) (h : L2.CX P w [] H s (fun _ _ _ => False) e s') : False := by
  obtain ⟨_, _, _, _, _, _, _, _, _, _, _, _, z⟩ := h
  exact z.elim
section
variable {P : Program} {w : World} {K : PySem.W.Frag} {mg : Str → Option Value} {base : Heap} {N : List Str} {qual : Str} {sc : Scope} {f : Addr} {cdv : Value} {A : Around} {outer : List Env} {s : Shared} {H : Hp} {E : XK}
theorem tk_def : Takes (cxOf (L2.CX P w) P w K mg base N qual sc f cdv A outer s H E) (fun cls d _ H => E cls d H) := takes_of rfl rfl rfl rfl
theorem hp_def : PassesOwn (model (cxOf (L2.CX P w) P w K mg base N qual sc f cdv A outer s H E).prog (cxOf (L2.CX P w) P w K mg base N qual sc f cdv A outer s H E).w) (cxOf (L2.CX P w) P w K mg base N qual sc f cdv A outer s H E).A (cxOf (L2.CX P w) P w K mg base N qual sc f cdv A outer s H E).env (cxOf (L2.CX P w) P w K mg base N qual sc f cdv A outer s H E).xe := passes_of rfl
end
/-- the law's promise, whatever the module's names hold -/
def spAll (K : PySem.W.Frag) : Sp := fun vs H Q E => ∀ mg, spOf K mg spLaw vs H Q E
theorem len_law : ∀ ds S Q E, spLaw ds S Q E → ds.length = 1 := fun ds S Q E ⟨ns, e, _⟩ => by rw [e]; rfl
/-! sizes -/
def MulOk (i j : Int) : Prop := CMul i j ∨ CMulW i j
def DivOk (j : Int) : Prop := 0 < j ∧ j.natAbs.log2 < 9000
def PowOk (i j : Int) : Prop := CPow i j
theorem mulR {i j : Int} (h : -(2 ^ 64) < j ∧ j < 2 ^ 64) : MulOk i j := .inl (.inr h)
theorem mulL {i j : Int} (h : -(2 ^ 64) < i ∧ i < 2 ^ 64) : MulOk i j := .inl (.inl h)
theorem divOk {j : Int} (h0 : 0 < j) (h : j < 2 ^ 64) : DivOk j := by
  have : j.natAbs < 2 ^ 64 := by omega
  exact ⟨h0, Nat.lt_of_lt_of_le (PySem.Flt.log2_lt_of (by decide) this) (by decide)⟩
@[simp] theorem divOk_lit (n : Nat) (h : 0 < n) (h2 : n < 2 ^ 64) : DivOk (no_index (OfNat.ofNat n)) := divOk (by show (0 : Int) < (n : Int); omega) (by show (n : Int) < 2 ^ 64; omega)
@[simp] theorem mulOk_litR (i : Int) (n : Nat) (h2 : n < 2 ^ 64) : MulOk i (no_index (OfNat.ofNat n)) := mulR (by show -(2 ^ 64) < (n : Int) ∧ (n : Int) < 2 ^ 64; omega)
@[simp] theorem mulOk_litL (i : Int) (n : Nat) (h2 : n < 2 ^ 64) : MulOk (no_index (OfNat.ofNat n)) i := mulL (by show -(2 ^ 64) < (n : Int) ∧ (n : Int) < 2 ^ 64; omega)
@[simp] theorem powOk_lit (n m : Nat) (h : n < 2 ^ 60) (h2 : m ≤ 1000) : PowOk (no_index (OfNat.ofNat n)) (no_index (OfNat.ofNat m)) := ⟨by show (0 : Int) ≤ (m : Int); omega, by show (m : Int) ≤ 1000000; omega, by show (n : Int).natAbs < 2 ^ 64; omega⟩
section
variable {ρ : DEnv} {S : Store} {Q : PQ} {E : PX} {DD : DEnds} {a b c : W} {u v : WS} {i j : Nat} {x y z d : D} {n m : Int}
@[simp] theorem e_seq : wsSeq u v ρ S DD E = u ρ S ⟨fun ρ1 S1 => v ρ1 S1 DD E, DD.rt⟩ E := rfl
@[simp] theorem e_nil : wsNil ρ S DD E = DD.nx ρ S := rfl
@[simp] theorem e_set : wsSet i a ρ S DD E = a ρ S (fun d S1 => DD.nx (ρ.set i (some d)) S1) E := rfl
@[simp] theorem e_expr : wsExpr a ρ S DD E = a ρ S (fun _ S1 => DD.nx ρ S1) E := rfl
@[simp] theorem e_ret : wsRet a ρ S DD E = a ρ S DD.rt E := rfl
@[simp] theorem e_retN : wsRetN ρ S DD E = DD.rt .non S := rfl
@[simp] theorem e_if : wsIf a u v ρ S DD E = a ρ S (fun d S1 => ∃ k, d = .bl k ∧ if k = true then u ρ S1 DD E else v ρ S1 DD E) E := rfl
@[simp] theorem e_asg {t : Tg} : wsAsg t a ρ S DD E = a ρ S (fun d S1 => t d ρ fun ρ1 => DD.nx ρ1 S1) E := rfl
@[simp] theorem e_tN {k : DEnv → Prop} : tN i d ρ k = k (ρ.set i (some d)) := rfl
@[simp] theorem e_tT {is : List Nat} {k : DEnv → Prop} : tT is d ρ k = ∃ ds, d = .tup ds ∧ ds.length = is.length ∧ k (setAll ρ is ds) := rfl
@[simp] theorem e_rt (c : D) : GS.ret c ρ S Q E = Q c S := rfl
@[simp] theorem e_op {p : D → D → W} : wOp p a b ρ S Q E = a ρ S (fun x S1 => b ρ S1 (fun y S2 => p x y ρ S2 Q E) E) E := rfl
@[simp] theorem e_op1 {p : D → W} : wOp1 p a ρ S Q E = a ρ S (fun x S1 => p x ρ S1 Q E) E := rfl
@[simp] theorem e_var : wVar i ρ S Q E = match ρ[i]? with
  | some (some d) => Q d S
  | _ => False := rfl
@[simp] theorem e_and : wAnd a b ρ S Q E = a ρ S (fun d S1 => pB (fun c => if c = true then b else GS.ret (.bl false)) d ρ S1 Q E) E := rfl
@[simp] theorem e_or : wOr a b ρ S Q E = a ρ S (fun d S1 => pB (fun c => if c = true then GS.ret (.bl true) else b) d ρ S1 Q E) E := rfl
@[simp] theorem e_not : wNot a ρ S Q E = a ρ S (fun d S1 => pB (fun c => GS.ret (.bl !c)) d ρ S1 Q E) E := rfl
@[simp] theorem e_pB {k : Bool → W} {t : Bool} : pB k (.bl t) ρ S Q E = k t ρ S Q E := rfl
@[simp] theorem e_chain {p q : D → D → W} : wChain p q a b c ρ S Q E = a ρ S (fun x S1 => b ρ S1 (fun y S2 => p x y ρ S2 (fun d S3 => pB (fun k => if k = true then bindW c fun z => q y z else GS.ret (.bl false)) d ρ S3 Q E) E) E) E := rfl
@[simp] theorem e_bind {k : D → W} : bindW a k ρ S Q E = a ρ S (fun d S1 => k d ρ S1 Q E) E := rfl
@[simp] theorem e_ite {k : Prop} [Decidable k] {f g : W} : (if k then f else g) ρ S Q E = if k then f ρ S Q E else g ρ S Q E := by split <;> rfl
@[simp] theorem e_ws0 {Q : List D → Store → Prop} : evWs [] ρ S Q E = Q [] S := rfl
@[simp] theorem e_ws1 {ws : List W} {Q : List D → Store → Prop} : evWs (a :: ws) ρ S Q E = a ρ S (fun d S1 => evWs ws ρ S1 (fun ds S2 => Q (d :: ds) S2) E) E := rfl
@[simp] theorem e_tup {ws : List W} : wTup ws ρ S Q E = evWs ws ρ S (fun ds S1 => ds.length ≤ 1000 ∧ Q (.tup ds) S1) E := rfl
@[simp] theorem e_lst {ws : List W} : wLst ws ρ S Q E = evWs ws ρ S (fun ds S1 => ds.length ≤ 1000 ∧ Q (.ref S1.length) (S1 ++ [.lst ds])) E := rfl
@[simp] theorem e_sl {lo hi : Option W} : wSl a lo hi ρ S Q E = a ρ S (fun x S1 => wPart lo (fun l => wPart hi fun h => pSl x l h) ρ S1 Q E) E := rfl
@[simp] theorem e_part0 {k : Option Int → W} : wPart none k ρ S Q E = k none ρ S Q E := rfl
@[simp] theorem e_part1 {k : Option Int → W} : wPart (some a) k ρ S Q E = a ρ S (fun d S1 => (match d with | .int i => k (some i) | _ => fail : W) ρ S1 Q E) E := rfl
@[simp] theorem e_call {sp : SPf} {ws : List W} {dfl : List D} : wCall sp ws dfl ρ S Q E = evWs ws ρ S (fun ds S1 => sp (ds ++ dfl) S1 Q (fun c S2 => E c ρ S2)) E := rfl
@[simp] theorem e_B {bf : BPf} {ws : List W} : wB bf ws ρ S Q E = evWs ws ρ S (fun ds S1 => bf ds ρ S1 Q E) E := rfl
@[simp] theorem e_add : pAdd (.int n) (.int m) ρ S Q E = Q (.int (n + m)) S := rfl
@[simp] theorem e_addS {s t : Str} : pAdd (.str s) (.str t) ρ S Q E = (s.length + t.length ≤ sizeLine ∧ Q (.str (s ++ t)) S) := rfl
@[simp] theorem e_addL : pAdd (.ref i) (.ref j) ρ S Q E = ∃ xs ys, S[i]? = some (.lst xs) ∧ S[j]? = some (.lst ys) ∧ xs.length + ys.length ≤ sizeLine ∧ Q (.ref S.length) (S ++ [.lst (xs ++ ys)]) := rfl
@[simp] theorem e_sub : pSub (.int n) (.int m) ρ S Q E = Q (.int (n - m)) S := rfl
@[simp] theorem e_mul : pMul (.int n) (.int m) ρ S Q E = (MulOk n m ∧ Q (.int (n * m)) S) := rfl
@[simp] theorem e_div : pDiv (.int n) (.int m) ρ S Q E = (DivOk m ∧ Q (.int (n / m)) S) := rfl
@[simp] theorem e_mod : pMod (.int n) (.int m) ρ S Q E = (0 < m ∧ Q (.int (n % m)) S) := rfl
@[simp] theorem e_pow : pPow (.int n) (.int m) ρ S Q E = (PowOk n m ∧ Q (.int (n ^ m.toNat)) S) := rfl
@[simp] theorem e_neg : pNeg (.int n) ρ S Q E = Q (.int (-n)) S := rfl
@[simp] theorem e_lt : pLt (.int n) (.int m) ρ S Q E = Q (.bl (decide (n < m))) S := rfl
@[simp] theorem e_le : pLe (.int n) (.int m) ρ S Q E = Q (.bl (decide (n ≤ m))) S := rfl
@[simp] theorem e_gt : pGt (.int n) (.int m) ρ S Q E = Q (.bl (decide (m < n))) S := rfl
@[simp] theorem e_ge : pGe (.int n) (.int m) ρ S Q E = Q (.bl (decide (m ≤ n))) S := rfl
@[simp] theorem e_eq : pEq (.int n) (.int m) ρ S Q E = Q (.bl (decide (n = m))) S := rfl
@[simp] theorem e_ne : pNe (.int n) (.int m) ρ S Q E = Q (.bl (!decide (n = m))) S := rfl
@[simp] theorem e_eqS {s t : Str} : pEq (.str s) (.str t) ρ S Q E = Q (.bl (decide (s = t))) S := rfl
@[simp] theorem e_neS {s t : Str} : pNe (.str s) (.str t) ρ S Q E = Q (.bl (!decide (s = t))) S := rfl
@[simp] theorem e_isN : pIsN d ρ S Q E = Q (.bl (isNon d)) S := rfl
@[simp] theorem e_notN : pNotN d ρ S Q E = Q (.bl (!isNon d)) S := rfl
@[simp] theorem e_isB {s t : Bool} : pIsB (.bl s) (.bl t) ρ S Q E = Q (.bl (decide (s = t))) S := rfl
@[simp] theorem e_notB {s t : Bool} : pNotB (.bl s) (.bl t) ρ S Q E = Q (.bl (!decide (s = t))) S := rfl
@[simp] theorem e_ixL : pIx (.ref i) (.int n) ρ S Q E = ∃ xs d, S[i]? = some (.lst xs) ∧ atI xs n = some d ∧ Q d S := rfl
@[simp] theorem e_ixT {ds : List D} : pIx (.tup ds) (.int n) ρ S Q E = ∃ d, atI ds n = some d ∧ Q d S := rfl
@[simp] theorem e_ixR {ds : List D} : pIx (.rol ds) (.int n) ρ S Q E = ∃ d, atI ds n = some d ∧ Q d S := rfl
@[simp] theorem e_ixS {s : Str} : pIx (.str s) (.int n) ρ S Q E = ∃ c, s.length ≤ sizeLine ∧ atI s.cps.toList n = some c ∧ Q (.str ⟨#[c]⟩) S := rfl
@[simp] theorem e_slR {ds : List D} {lo hi : Option Int} : pSl (.rol ds) lo hi ρ S Q E = (ds.length ≤ sizeLine ∧ Q (.ref S.length) (S ++ [.lst (cutD ds lo hi)])) := rfl
@[simp] theorem e_slL {lo hi : Option Int} : pSl (.ref i) lo hi ρ S Q E = ∃ xs, S[i]? = some (.lst xs) ∧ Q (.ref S.length) (S ++ [.lst (cutD xs lo hi)]) := rfl
@[simp] theorem e_slS {s : Str} {lo hi : Option Int} : pSl (.str s) lo hi ρ S Q E = (s.length ≤ sizeLine ∧ Q (.str (cutS s lo hi)) S) := rfl
@[simp] theorem e_rev : pRev (.ref i) ρ S Q E = ∃ xs, S[i]? = some (.lst xs) ∧ Q (.ref S.length) (S ++ [.lst xs.reverse]) := rfl
@[simp] theorem e_len : bLen [d] ρ S Q E = pLen d ρ S Q E := rfl
@[simp] theorem e_lenL : pLen (.ref i) ρ S Q E = ∃ xs, S[i]? = some (.lst xs) ∧ Q (.int xs.length) S := rfl
@[simp] theorem e_lenT {ds : List D} : pLen (.tup ds) ρ S Q E = Q (.int ds.length) S := rfl
@[simp] theorem e_lenR {ds : List D} : pLen (.rol ds) ρ S Q E = Q (.int ds.length) S := rfl
@[simp] theorem e_lenS {s : Str} : pLen (.str s) ρ S Q E = (s.length ≤ sizeLine ∧ Q (.int s.length) S) := rfl
@[simp] theorem e_max : bMax [.int n, .int m] ρ S Q E = Q (.int (if m > n then m else n)) S := rfl
@[simp] theorem e_min : bMin [.int n, .int m] ρ S Q E = Q (.int (if m < n then m else n)) S := rfl
@[simp] theorem e_int1 : bInt [.int n] ρ S Q E = Q (.int n) S := rfl
@[simp] theorem e_int2 {t : Bool} : bInt [.bl t] ρ S Q E = Q (.int (if t then 1 else 0)) S := rfl
@[simp] theorem e_str1 : bStr [.int n] ρ S Q E = (n.natAbs.log2 < 1920 ∧ Q (.str (toString n)) S) := rfl
@[simp] theorem e_listL : bList [.ref i] ρ S Q E = ∃ xs, S[i]? = some (.lst xs) ∧ Q (.ref S.length) (S ++ [.lst xs]) := rfl
@[simp] theorem e_M {T : String} {m : D → List D → W} {ws : List W} : wM T m a ws ρ S Q E = a ρ S (fun d S1 => isT T S1 d ∧ evWs ws ρ S1 (fun ds S2 => m d ds ρ S2 Q E) E) E := rfl
@[simp] theorem e_append : mAppend (.ref i) [d] ρ S Q E = ∃ xs, S[i]? = some (.lst xs) ∧ xs.length < sizeLine ∧ Q .non (S.set i (.lst (xs ++ [d]))) := rfl
@[simp] theorem e_popAt : mPopAt (.ref i) [.int n] ρ S Q E = ∃ xs d k, S[i]? = some (.lst xs) ∧ -(2 ^ 63) ≤ n ∧ n < 2 ^ 63 ∧ seqIndex? n xs.length = some k ∧ xs[k]? = some d ∧ Q d (S.set i (.lst (xs.eraseIdx k))) := rfl
@[simp] theorem e_pop : mPop (.ref i) [] ρ S Q E = ∃ xs d, S[i]? = some (.lst xs) ∧ xs[xs.length - 1]? = some d ∧ Q d (S.set i (.lst xs.dropLast)) := rfl
@[simp] theorem e_clear : mClear (.ref i) [] ρ S Q E = ∃ xs, S[i]? = some (.lst xs) ∧ Q .non (S.set i (.lst [])) := rfl
@[simp] theorem e_comp {vs : List Nat} {t : Tg} : wComp vs t a b c ρ S Q E = a ρ S (fun d S1 => ∃ n ds, d = .ref n ∧ atL n ds S1 ∧ compG (atL n ds) t b c ds [] (wipeD ρ vs) S1 Q) E := rfl
@[simp] theorem e_compR1 {vs : List Nat} {t : Tg} : wCompR1 vs t a b c ρ S Q E = a ρ S (fun d S1 => ∃ j : Int, d = .int j ∧ -(2 ^ 62) ≤ j ∧ j ≤ 100000 ∧ compG (fun _ => True) t b c (rangeD 0 j.toNat) [] (wipeD ρ vs) S1 Q) E := rfl
theorem e_compR2 {vs : List Nat} {t : Tg} {a2 : W} : wCompR2 vs t a a2 b c ρ S Q E = a ρ S (fun d S1 => a2 ρ S1 (fun d2 S2 => ∃ i j : Int, d = .int i ∧ d2 = .int j ∧ (-(2 ^ 62) ≤ i ∧ i < 2 ^ 62 ∧ -(2 ^ 62) ≤ j ∧ j < 2 ^ 62 ∧ j - i ≤ 100000) ∧ compG (fun _ => True) t b c (rangeD i (j - i).toNat) [] (wipeD ρ vs) S2 Q) E) E := rfl
@[simp] theorem e_wipe0 : wipeD ρ [] = ρ := rfl
@[simp] theorem e_wipe1 {vs : List Nat} : wipeD ρ (i :: vs) = (wipeD ρ vs).set i none := rfl
@[simp] theorem e_yes : wYes ρ S Q E = Q (.bl true) S := rfl
@[simp] theorem e_isi {T : String} : pIsi T d ρ S Q E = ∃ a, tyName S d = some a ∧ Q (.bl (isi a T)) S := rfl
@[simp] theorem e_ty0 : tyName S .non = some "NoneType" := rfl
@[simp] theorem e_ty1 {t : Bool} : tyName S (.bl t) = some "bool" := rfl
@[simp] theorem e_ty2 : tyName S (.int n) = some "int" := rfl
@[simp] theorem e_ty3 {s : Str} : tyName S (.str s) = some "str" := rfl
@[simp] theorem e_ty4 {ds : List D} : tyName S (.tup ds) = some "tuple" := rfl
theorem e_ty5 {ds : List D} (h : S[i]? = some (.lst ds)) : tyName S (.ref i) = some "list" := by simp [tyName, h]
theorem e_ty6 {ks : List (Key × D)} (h : S[i]? = some (.dct ks)) : tyName S (.ref i) = some "dict" := by simp [tyName, h]
@[simp] theorem e_forR1 {t : Tg} : wsForR1 t a u ρ S DD E = a ρ S (fun d S1 => ∃ j : Int, d = .int j ∧ -(2 ^ 62) ≤ j ∧ j < 2 ^ 62 ∧ loopG (fun _ => True) t u (rangeD 0 j.toNat) ρ S1 DD E) E := rfl
@[simp] theorem e_forR2 {t : Tg} : wsForR2 t a b u ρ S DD E = a ρ S (fun d S1 => b ρ S1 (fun e S2 => ∃ i j : Int, d = .int i ∧ e = .int j ∧ (-(2 ^ 62) ≤ i ∧ i < 2 ^ 62 ∧ -(2 ^ 62) ≤ j ∧ j < 2 ^ 62) ∧ loopG (fun _ => True) t u (rangeD i (j - i).toNat) ρ S2 DD E) E) E := rfl
@[simp] theorem e_for {t : Tg} : wsFor t a u ρ S DD E = a ρ S (fun d S1 => ∃ n ds, d = .ref n ∧ atL n ds S1 ∧ loopG (atL n ds) t u ds ρ S1 DD E) E := rfl
@[simp] theorem e_forT {t : Tg} : wsForT t a u ρ S DD E = a ρ S (fun d S1 => ∃ ds, d = .tup ds ∧ loopG (fun _ => True) t u ds ρ S1 DD E) E := rfl
end
/-- a loop by what holds ahead of each turn -/
theorem loop_inv {st : Store → Prop} {t : Tg} {u : WS} {DD : DEnds} {E : PX} (I : Nat → DEnv → Store → Prop) : ∀ (xs : List D) (k : Nat) (ρ : DEnv) (S : Store), I k ρ S → (∀ i ρ S, I i ρ S → st S) →
    (∀ (i : Nat) (x : D) (ρ : DEnv) (S : Store) (N : DEnv → Store → Prop), xs[i]? = some x → I (k + i) ρ S → (∀ ρ2 S2, I (k + i + 1) ρ2 S2 → N ρ2 S2) → t x ρ fun ρ1 => u ρ1 S ⟨N, DD.rt⟩ E) → (∀ ρ S, I (k + xs.length) ρ S → DD.nx ρ S) → loopG st t u xs ρ S DD E
  | [], k, ρ, S, h, hs, ht, hd => ⟨hs _ _ _ h, hd _ _ (by simpa using h)⟩
  | x :: xs, k, ρ, S, h, hs, ht, hd => by
    refine ⟨hs _ _ _ h, ht 0 x ρ S _ (by simp) (by simpa using h) fun r s h2 => ?_⟩
    exact loop_inv I xs (k + 1) r s (by simpa using h2) hs (fun i y ρ S N e hi hN => by
      refine ht (i + 1) y ρ S N (by simpa using e) (by rw [show k + (i + 1) = k + 1 + i from by omega]; exact hi) ?_
      rw [show k + (i + 1) + 1 = k + 1 + i + 1 from by omega]
      exact hN) (fun ρ S h => hd ρ S (by rw [show k + (x :: xs).length = k + 1 + xs.length from by simp; omega]; exact h))
theorem mem_cut {xs : List D} {lo hi : Option Int} {x : D} (h : x ∈ cutD xs lo hi) : x ∈ xs := List.mem_of_mem_drop (List.mem_of_mem_take h)
theorem isT_list {S : Store} {n : Nat} {xs : List D} (h : S[n]? = some (.lst xs)) : isT "list" S (.ref n) := .inl ⟨rfl, xs, h⟩
/-- a loop over a list that is not changed; what is told of each item -/
theorem loop_list {t : Tg} {u : WS} {DD : DEnds} {E : PX} {n : Nat} {ds : List D} {ρ : DEnv} {S : Store} (I : Nat → DEnv → Store → Prop) (h0 : I 0 ρ S) (hs : ∀ i ρ S, I i ρ S → S[n]? = some (.lst ds))
    (ht : ∀ (i : Nat) (x : D) (ρ : DEnv) (S : Store) (N : DEnv → Store → Prop), ds[i]? = some x → I i ρ S → (∀ ρ2 S2, I (i + 1) ρ2 S2 → N ρ2 S2) → t x ρ fun ρ1 => u ρ1 S ⟨N, DD.rt⟩ E) (hd : ∀ ρ S, I ds.length ρ S → DD.nx ρ S) : loopG (atL n ds) t u ds ρ S DD E :=
  loop_inv I _ 0 ρ S h0 hs (fun i x ρ S N e hi hN => ht i x ρ S N e (by simpa using hi) (by simpa using hN)) (fun ρ S h => hd ρ S (by simpa using h))
/-- over a range -/
theorem loop_range {t : Tg} {u : WS} {DD : DEnds} {E : PX} {lo : Int} {n : Nat} {ρ : DEnv} {S : Store} (I : Nat → DEnv → Store → Prop) (h0 : I 0 ρ S)
    (ht : ∀ (i : Nat) (ρ : DEnv) (S : Store) (N : DEnv → Store → Prop), i < n → I i ρ S → (∀ ρ2 S2, I (i + 1) ρ2 S2 → N ρ2 S2) → t (.int (lo + (i : Nat))) ρ fun ρ1 => u ρ1 S ⟨N, DD.rt⟩ E) (hd : ∀ ρ S, I n ρ S → DD.nx ρ S) : loopG (fun _ => True) t u (rangeD lo n) ρ S DD E := by
  refine loop_inv I _ 0 ρ S h0 (fun _ _ _ _ => trivial) (fun i x ρ S N e hi hN => ?_) (fun ρ S h => hd ρ S (by simpa [rangeD_length] using h))
  have hl : i < n := by
    have := (List.getElem?_eq_some_iff.mp e).1
    rwa [rangeD_length] at this
  rw [rangeD_get hl] at e
  cases e
  exact ht i ρ S N hl (by simpa using hi) (by simpa using hN)
/-- the common ends -/
theorem ret_pure {S G : Store} {d : D} {Q : PQ} (hS : ClS S) (hd : Cl S.length d) (h : Q d S) : RetQ S.length Q d (S ++ G) := .inr ⟨S, d, Gc.drop rfl hS hd, h⟩
theorem ret_any {n : Nat} {S : Store} {d : D} {Q : PQ} (h : Q d S) : RetQ n Q d S := .inl h
theorem ret_same {S : Store} {d : D} {Q : PQ} (h : Q d S) : RetQ S.length Q d S := .inl h
theorem ret_list {S S' : Store} {ds : List D} {k : Nat} {Q : PQ} (hS : ClS S) (h0 : ∀ i, i < S.length → S'[i]? = S[i]?) (hk : S'[k]? = some (.lst ds)) (hnk : S.length ≤ k) (hd : Cls' S.length ds) (h : Q (.ref S.length) (S ++ [.lst ds])) : RetQ S.length Q (.ref k) S' :=
  .inr ⟨_, _, Gc.one rfl hS h0 hk hnk hd, h⟩

/-! ### kinds of data that hold no places -/
structure En (α : Type) [DecidableEq α] where
  enc : α → D
  py : α → PyData
  dpy : ∀ S a, DPy S (enc a) (py a)
  lay : ∀ a, (py a).canLay0 = true
  dep : ∀ a, (py a).depth ≤ 10
  eqv : ∀ a b, PyData.eqv (py a) (py b) = decide (a = b)
  cl : ∀ n a, Cl n (enc a)
def encs {α : Type} [DecidableEq α] (e : En α) (xs : List α) : List D := xs.map e.enc
section
variable {α β : Type} [DecidableEq α] [DecidableEq β]
theorem dpys_map (e : En α) (S : Store) : ∀ xs : List α, DPys S (xs.map e.enc) (xs.map e.py)
  | [] => .nil
  | x :: xs => .cons (e.dpy S x) (dpys_map e S xs)
theorem layAll_map (e : En α) : ∀ xs : List α, PyData.canLayAll0 (xs.map e.py) = true
  | [] => by simp [PyData.canLayAll0]
  | x :: xs => by simp [PyData.canLayAll0, e.lay x, layAll_map e xs]
theorem depAll_map (e : En α) : ∀ xs : List α, PyData.depthAll (xs.map e.py) ≤ 10
  | [] => by simp [PyData.depthAll]
  | x :: xs => by
    have h1 := e.dep x
    have h2 := depAll_map e xs
    simp [PyData.depthAll]; omega
theorem eqvAll_map (e : En α) : ∀ xs ys : List α, PyData.eqvAll (xs.map e.py) (ys.map e.py) = decide (xs = ys)
  | [], [] => by simp [PyData.eqvAll]
  | [], _ :: _ => by simp [PyData.eqvAll]
  | _ :: _, [] => by simp [PyData.eqvAll]
  | x :: xs, y :: ys => by
    simp only [List.map_cons, PyData.eqvAll, e.eqv, eqvAll_map e xs ys, List.cons.injEq, Bool.decide_and]
theorem shaped_list (e : En α) (xs : List α) : SeqAt.shaped (.list (xs.map e.py)) = true := by
  have := depAll_map e xs
  unfold SeqAt.shaped
  rw [Bool.and_eq_true]
  exact ⟨by simp only [PyData.canLay0, layAll_map e xs], decide_eq_true (by simp only [PyData.depth]; omega)⟩
theorem cls_map (e : En α) (n : Nat) : ∀ xs : List α, Cls' n (xs.map e.enc)
  | [] => by simp only [List.map_nil, Cls']
  | x :: xs => by simp only [List.map_cons, Cls']; exact ⟨e.cl n x, cls_map e n xs⟩
def eInt : En Int where
  enc := .int
  py := .int
  dpy := fun _ _ => .int _
  lay := fun _ => rfl
  dep := fun _ => by simp [PyData.depth]
  eqv := fun a b => by simp [PyData.eqv, Bool.beq_eq_decide_eq]
  cl := fun _ _ => by simp only [Cl]
def eBool : En Bool where
  enc := .bl
  py := .bool
  dpy := fun _ _ => .bl _
  lay := fun _ => rfl
  dep := fun _ => by simp [PyData.depth]
  eqv := fun a b => by simp [PyData.eqv, Bool.beq_eq_decide_eq]
  cl := fun _ _ => by simp only [Cl]
end
/-- a thing: key and worth -/
abbrev Th := Int × Int
abbrev Pl := Option Th
def eTh : En Th where
  enc := fun a => .tup [.int a.1, .int a.2]
  py := fun a => .tuple [.int a.1, .int a.2]
  dpy := fun _ a => .tup (.cons (.int _) (.cons (.int _) .nil))
  lay := fun _ => rfl
  dep := fun _ => by simp [PyData.depth, PyData.depthAll]
  eqv := fun a b => by
    obtain ⟨a1, a2⟩ := a; obtain ⟨b1, b2⟩ := b
    simp [PyData.eqv, PyData.eqvAll, Bool.beq_eq_decide_eq, Bool.decide_and, Prod.mk.injEq]
  cl := fun _ _ => by simp [Cl, Cls']
def ePl : En Pl where
  enc := fun a => match a with
    | none => .tup []
    | some a => .tup [.int a.1, .int a.2]
  py := fun a => match a with
    | none => .tuple []
    | some a => .tuple [.int a.1, .int a.2]
  dpy := fun _ a => match a with
    | none => .tup .nil
    | some a => .tup (.cons (.int _) (.cons (.int _) .nil))
  lay := fun a => match a with
    | none => rfl
    | some a => rfl
  dep := fun a => match a with
    | none => by simp [PyData.depth, PyData.depthAll]
    | some a => by simp [PyData.depth, PyData.depthAll]
  eqv := fun a b => match a, b with
    | none, none => by simp [PyData.eqv, PyData.eqvAll]
    | none, some b => by simp [PyData.eqv, PyData.eqvAll]
    | some a, none => by simp [PyData.eqv, PyData.eqvAll]
    | some (a1, a2), some (b1, b2) => by simp [PyData.eqv, PyData.eqvAll, Bool.beq_eq_decide_eq, Bool.decide_and, Prod.mk.injEq]
  cl := fun _ a => match a with
    | none => by simp [Cl, Cls']
    | some a => by simp [Cl, Cls']
/-- a pair of two kinds, a tuple -/
def ePair {α β : Type} [DecidableEq α] [DecidableEq β] (e : En α) (f : En β) (hd : (∀ a, (e.py a).depth ≤ 9) ∧ ∀ b, (f.py b).depth ≤ 9) : En (α × β) where
  enc := fun a => .tup [e.enc a.1, f.enc a.2]
  py := fun a => .tuple [e.py a.1, f.py a.2]
  dpy := fun S a => .tup (.cons (e.dpy S a.1) (.cons (f.dpy S a.2) .nil))
  lay := fun a => by simp [PyData.canLay0, PyData.canLayAll0, e.lay, f.lay]
  dep := fun a => by
    have h1 := hd.1 a.1
    have h2 := hd.2 a.2
    simp [PyData.depth, PyData.depthAll]; omega
  eqv := fun a b => by
    obtain ⟨a1, a2⟩ := a; obtain ⟨b1, b2⟩ := b
    simp [PyData.eqv, PyData.eqvAll, e.eqv, f.eqv, Bool.decide_and, Prod.mk.injEq]
  cl := fun n a => by simp [Cl, Cls', e.cl, f.cl]
theorem dep_pl (a : Pl) : (ePl.py a).depth ≤ 9 := by cases a <;> simp [ePl, PyData.depth, PyData.depthAll]
theorem dep_int (a : Int) : (eInt.py a).depth ≤ 9 := by simp [eInt, PyData.depth]
/-- a write: place, thing or () -/
def eWr : En (Int × Pl) := ePair eInt ePl ⟨dep_int, dep_pl⟩
def eMv : En (Int × Int) := eTh
section
variable {α : Type} [DecidableEq α] {ρ : DEnv} {S : Store} {Q : PQ} {E : PX} {i j : Nat} {xs ys : List α} {x y : α}
theorem pEq_gen {d e : D} (h : pEqG d e ρ S Q E) : pEq d e ρ S Q E := by
  unfold pEq
  split
  · obtain ⟨p, q, hp, hq, _, _, h⟩ := h
    cases hp; cases hq
    simpa [PyData.eqv, Bool.beq_eq_decide_eq] using h
  · obtain ⟨p, q, hp, hq, _, _, h⟩ := h
    cases hp; cases hq
    simpa [PyData.eqv, Bool.beq_eq_decide_eq] using h
  · exact h
theorem pNe_gen {d e : D} (h : pNeG d e ρ S Q E) : pNe d e ρ S Q E := by
  unfold pNe
  split
  · obtain ⟨p, q, hp, hq, _, _, h⟩ := h
    cases hp; cases hq
    simpa [PyData.eqv, Bool.beq_eq_decide_eq] using h
  · obtain ⟨p, q, hp, hq, _, _, h⟩ := h
    cases hp; cases hq
    simpa [PyData.eqv, Bool.beq_eq_decide_eq] using h
  · exact h
theorem shaped_en (e : En α) (a : α) : SeqAt.shaped (e.py a) = true := by
  have := e.dep a
  unfold SeqAt.shaped
  simp only [e.lay, Bool.true_and, decide_eq_true_eq]; omega
theorem eq_list (e : En α) (h1 : S[i]? = some (.lst (xs.map e.enc))) (h2 : S[j]? = some (.lst (ys.map e.enc))) (h : Q (.bl (decide (xs = ys))) S) : pEq (.ref i) (.ref j) ρ S Q E :=
  pEq_gen ⟨_, _, .lst h1 (dpys_map e S xs), .lst h2 (dpys_map e S ys), shaped_list e xs, shaped_list e ys, by simpa only [PyData.eqv, eqvAll_map] using h⟩
theorem ne_list (e : En α) (h1 : S[i]? = some (.lst (xs.map e.enc))) (h2 : S[j]? = some (.lst (ys.map e.enc))) (h : Q (.bl (!decide (xs = ys))) S) : pNe (.ref i) (.ref j) ρ S Q E :=
  pNe_gen ⟨_, _, .lst h1 (dpys_map e S xs), .lst h2 (dpys_map e S ys), shaped_list e xs, shaped_list e ys, by simpa only [PyData.eqv, eqvAll_map] using h⟩
theorem eq_en (e : En α) (h : Q (.bl (decide (x = y))) S) : pEq (e.enc x) (e.enc y) ρ S Q E :=
  pEq_gen ⟨_, _, e.dpy S x, e.dpy S y, shaped_en e x, shaped_en e y, by simpa only [e.eqv] using h⟩
theorem ne_en (e : En α) (h : Q (.bl (!decide (x = y))) S) : pNe (e.enc x) (e.enc y) ρ S Q E :=
  pNe_gen ⟨_, _, e.dpy S x, e.dpy S y, shaped_en e x, shaped_en e y, by simpa only [e.eqv] using h⟩
end
/-! tuples of no, of two numbers -/
section
variable {ρ : DEnv} {S : Store} {Q : PQ} {E : PX} {a b c d : Int}
theorem dpys_nil {ps : List PyData} (h : DPys S [] ps) : ps = [] := by cases h; rfl
theorem dpy_int {p : PyData} (h : DPy S (.int a) p) : p = .int a := by cases h; rfl
theorem dpys_two {ps : List PyData} (h : DPys S [.int a, .int b] ps) : ps = [.int a, .int b] := by
  cases h with
  | cons h1 h2 => cases h2 with
    | cons h3 h4 => rw [dpys_nil h4, dpy_int h1, dpy_int h3]
theorem dpy_t0 {p : PyData} (h : DPy S (.tup []) p) : p = .tuple [] := by
  cases h with
  | tup h => rw [dpys_nil h]
theorem dpy_t2 {p : PyData} (h : DPy S (.tup [.int a, .int b]) p) : p = .tuple [.int a, .int b] := by
  cases h with
  | tup h => rw [dpys_two h]
@[simp] theorem e_ne20 : pNe (.tup [.int a, .int b]) (.tup []) ρ S Q E ↔ Q (.bl true) S := by
  constructor
  · rintro ⟨p, q, hp, hq, _, _, h⟩
    rw [dpy_t2 hp, dpy_t0 hq] at h
    simpa [PyData.eqv, PyData.eqvAll] using h
  · intro h
    exact ne_en ePl (x := some (a, b)) (y := none) (by simpa using h)
@[simp] theorem e_ne00 : pNe (.tup []) (.tup []) ρ S Q E ↔ Q (.bl false) S := by
  constructor
  · rintro ⟨p, q, hp, hq, _, _, h⟩
    rw [dpy_t0 hp, dpy_t0 hq] at h
    simpa [PyData.eqv, PyData.eqvAll] using h
  · intro h
    exact ne_en ePl (x := none) (y := none) (by simpa using h)
@[simp] theorem e_eq20 : pEq (.tup [.int a, .int b]) (.tup []) ρ S Q E ↔ Q (.bl false) S := by
  constructor
  · rintro ⟨p, q, hp, hq, _, _, h⟩
    rw [dpy_t2 hp, dpy_t0 hq] at h
    simpa [PyData.eqv, PyData.eqvAll] using h
  · intro h
    exact eq_en ePl (x := some (a, b)) (y := none) (by simpa using h)
@[simp] theorem e_eq00 : pEq (.tup []) (.tup []) ρ S Q E ↔ Q (.bl true) S := by
  constructor
  · rintro ⟨p, q, hp, hq, _, _, h⟩
    rw [dpy_t0 hp, dpy_t0 hq] at h
    simpa [PyData.eqv, PyData.eqvAll] using h
  · intro h
    exact eq_en ePl (x := none) (y := none) (by simpa using h)
@[simp] theorem e_eq22 : pEq (.tup [.int a, .int b]) (.tup [.int c, .int d]) ρ S Q E ↔ Q (.bl (decide ((a, b) = (c, d)))) S := by
  constructor
  · rintro ⟨p, q, hp, hq, _, _, h⟩
    rw [dpy_t2 hp, dpy_t2 hq] at h
    simpa [PyData.eqv, PyData.eqvAll, Bool.beq_eq_decide_eq, Bool.decide_and, Prod.mk.injEq] using h
  · intro h
    exact eq_en eTh (x := (a, b)) (y := (c, d)) h
@[simp] theorem e_ne22 : pNe (.tup [.int a, .int b]) (.tup [.int c, .int d]) ρ S Q E ↔ Q (.bl (!decide ((a, b) = (c, d)))) S := by
  constructor
  · rintro ⟨p, q, hp, hq, _, _, h⟩
    rw [dpy_t2 hp, dpy_t2 hq] at h
    simpa [PyData.eqv, PyData.eqvAll, Bool.beq_eq_decide_eq, Bool.decide_and, Prod.mk.injEq, Bool.not_and] using h
  · intro h
    exact ne_en eTh (x := (a, b)) (y := (c, d)) h
@[simp] theorem e_nePl {p : Pl} : pNe (ePl.enc p) (.tup []) ρ S Q E ↔ Q (.bl p.isSome) S := by
  cases p <;> simp [ePl]
@[simp] theorem e_eqPl {p : Pl} : pEq (ePl.enc p) (.tup []) ρ S Q E ↔ Q (.bl p.isNone) S := by
  cases p <;> simp [ePl]
end
/-! ### comprehensions -/
theorem comp_inv {st : Store → Prop} {b : Tg} {c e : W} {Q : PQ} {ρ : DEnv} (I : Nat → List D → Store → Prop) : ∀ (xs : List D) (k : Nat) (acc : List D) (S : Store), I k acc S → (∀ i acc S, I i acc S → st S) →
    (∀ (i : Nat) (x : D) (acc : List D) (S : Store) (N : List D → Store → Prop), xs[i]? = some x → I (k + i) acc S → (∀ acc2 S2, I (k + i + 1) acc2 S2 → N acc2 S2) →
      b x ρ fun ρ1 => c ρ1 S (fun d S1 => ∃ t, d = .bl t ∧ if t = true then e ρ1 S1 (fun y S2 => N (acc ++ [y]) S2) NoE else N acc S1) NoE) →
    (∀ acc S, I (k + xs.length) acc S → Q (.ref S.length) (S ++ [.lst acc])) → compG st b c e xs acc ρ S Q
  | [], k, acc, S, h, hs, ht, hd => ⟨hs _ _ _ h, hd _ _ (by simpa using h)⟩
  | x :: xs, k, acc, S, h, hs, ht, hd => by
    refine ⟨hs _ _ _ h, ht 0 x acc S (fun acc S => compG st b c e xs acc ρ S Q) (by simp) (by simpa using h) fun r s h2 => ?_⟩
    exact comp_inv I xs (k + 1) r s (by simpa using h2) hs (fun i y ρ S N e hi hN => by
      refine ht (i + 1) y ρ S N (by simpa using e) (by rw [show k + (i + 1) = k + 1 + i from by omega]; exact hi) ?_
      rw [show k + (i + 1) + 1 = k + 1 + i + 1 from by omega]
      exact hN) (fun ρ S h => hd ρ S (by rw [show k + (x :: xs).length = k + 1 + xs.length from by simp; omega]; exact h))
/-- nothing is made on the way but the list -/
theorem comp_pure {st : Store → Prop} {b : Tg} {c e : W} {Q : PQ} {ρ : DEnv} {S : Store} {xs : List D} (f : D → Option D) (hs : st S)
    (ht : ∀ x, x ∈ xs → ∀ N : List D → Store → Prop, N (f x).toList S → b x ρ fun ρ1 => c ρ1 S (fun d S1 => ∃ t, d = .bl t ∧ if t = true then e ρ1 S1 (fun y S2 => N [y] S2) NoE else N [] S1) NoE)
    (hq : Q (.ref S.length) (S ++ [.lst (xs.filterMap f)])) : compG st b c e xs [] ρ S Q := by
  refine comp_inv (fun i acc S' => S' = S ∧ acc = (xs.take i).filterMap f) xs 0 [] S ⟨rfl, by simp⟩ (fun i acc S' h => h.1 ▸ hs) ?_ ?_
  · rintro i x acc S' N hx ⟨rfl, rfl⟩ hN
    have := ht x (List.mem_of_getElem? hx) (fun ys S2 => N (((xs.take (0 + i)).filterMap f) ++ ys) S2) ?_
    · simpa using this
    · refine hN _ _ ⟨rfl, ?_⟩
      rw [show 0 + i + 1 = (0 + i) + 1 from rfl, List.take_add_one, List.filterMap_append]
      simp only [Nat.zero_add]
      rw [hx]
      cases h : f x <;> simp [h]
  · rintro acc S' ⟨rfl, rfl⟩
    simpa using hq
/-! ### bounds -/
def Good (t w s : Int) : Prop := 0 ≤ t ∧ t ≤ 4 ∧ 1 ≤ w ∧ w ≤ 20 ∧ 1 ≤ s ∧ s * (t + 2) ≤ w
abbrev bnd (t w s : Int) : D := .tup [.int t, .int w, .int s]
def sp_twofold : SPf
  | [.int h], S, Q, _ => (0 ≤ h ∧ h ≤ 60) ∧ Q (.int (2 ^ h.toNat)) S
  | _, _, _, _ => False
def sp_cap_of : SPf
  | [.tup [.int _, .int w, .int s], .int h], S, Q, _ => (0 ≤ h ∧ h ≤ 60) ∧ Q (.int (2 ^ h.toNat * (w - s * h))) S
  | _, _, _, _ => False
def sp_calm_of : SPf
  | [.tup [.int _, .int w, .int s], .int h], S, Q, _ => (0 ≤ h ∧ h ≤ 60) ∧ Q (.int (2 ^ h.toNat * (w - s * (h + 1)))) S
  | _, _, _, _ => False
def sp_law_spread : SPf
  | [.int _], S, Q, _ => ∀ n : Int, 0 ≤ n → n < 10 ^ 60 → Q (.int n) S
  | _, _, _, _ => False
def sp_law_whole : SPf
  | [d], S, Q, _ => match tyName S d with
    | some a => Q (.bl (decide (a = "int"))) S
    | none => False
  | _, _, _, _ => False
def sp_law_bounds : SPf
  | [.int _], S, Q, _ => ∀ t w s : Int, Good t w s → Q (bnd t w s) S
  | _, _, _, _ => False
def sp_law_two : SPf
  | [.int h], S, Q, _ => (0 ≤ h ∧ h ≤ 4) ∧ Q (.int (2 ^ h.toNat)) S
  | _, _, _, _ => False
abbrev n_twofold : List Str := ["height", "number", "turn"]
def w_twofold : WS :=
  wsSeq (wsSet 1 (ret (.int 1))) (wsSeq (wsForR1 (tN 2) (wVar 0) (wsSet 1 (wOp pMul (wVar 1) (ret (.int 2))))) (wsRet (wVar 1)))

abbrev n_cap_of : List Str := ["bounds", "height"]
def w_cap_of : WS :=
  wsRet (wOp pMul (wCall sp_twofold [wVar 1] []) (wOp pSub (wOp pIx (wVar 0) (ret (.int 1))) (wOp pMul (wOp pIx (wVar 0) (ret (.int 2))) (wVar 1))))

abbrev n_calm_of : List Str := ["bounds", "height"]
def w_calm_of : WS :=
  wsRet (wOp pMul (wCall sp_twofold [wVar 1] []) (wOp pSub (wOp pIx (wVar 0) (ret (.int 1))) (wOp pMul (wOp pIx (wVar 0) (ret (.int 2))) (wOp pAdd (wVar 1) (ret (.int 1))))))

abbrev n_law_spread : List Str := ["cell", "number"]
def w_law_spread : WS :=
  wsSeq (wsSet 1 (wOp pMod (wOp pMul (wOp pAdd (wOp pMod (wVar 0) (ret (.int 2147483629))) (ret (.int 1))) (ret (.int 1103515245))) (ret (.int 2147483629)))) (wsRet (wOp pAdd (wOp pMod (wOp pMul (wVar 1) (wVar 1)) (ret (.int 2147483587))) (wOp pMul (wOp pMod (wVar 0) (wOp pPow (ret (.int 10)) (ret (.int 50)))) (ret (.int 2147483587)))))

abbrev n_law_whole : List Str := ["thing"]
def w_law_whole : WS :=
  wsRet (wAnd (wOp1 (pIsi "int") (wVar 0)) (wNot (wOp1 (pIsi "bool") (wVar 0))))

abbrev n_law_bounds : List Str := ["cell", "number", "top", "step", "low", "more"]
def w_law_bounds : WS :=
  wsSeq (wsSet 1 (wCall sp_law_spread [wVar 0] [])) (wsSeq (wsSet 2 (wOp pIx (wLst [ret (.int 0), ret (.int 1), ret (.int 1), ret (.int 2), ret (.int 2), ret (.int 2), ret (.int 3), ret (.int 4)]) (wOp pMod (wVar 1) (ret (.int 8))))) (wsSeq (wsSet 3 (wOp pAdd (ret (.int 1)) (wOp pMod (wOp pDiv (wVar 1) (ret (.int 8))) (wOp pDiv (ret (.int 20)) (wOp pAdd (wVar 2) (ret (.int 2))))))) (wsSeq (wsSet 4 (wOp pMul (wVar 3) (wOp pAdd (wVar 2) (ret (.int 2))))) (wsSeq (wsSet 5 (wOp pIx (wLst [wOp pMod (wOp pDiv (wVar 1) (ret (.int 320))) (ret (.int 4)), wOp pMod (wOp pDiv (wVar 1) (ret (.int 320))) (ret (.int 21))]) (wOp pMod (wOp pDiv (wVar 1) (ret (.int 160))) (ret (.int 2))))) (wsRet (wTup [wVar 2, wOp pAdd (wVar 4) (wOp pMod (wVar 5) (wOp pSub (ret (.int 21)) (wVar 4))), wVar 3]))))))

abbrev n_law_two : List Str := ["height"]
def w_law_two : WS :=
  wsRet (wOp pIx (wLst [ret (.int 1), ret (.int 2), ret (.int 4), ret (.int 8), ret (.int 16)]) (wVar 0))

theorem two_pow_le (n : Nat) (h : n ≤ 60) : (1 : Int) ≤ 2 ^ n ∧ (2 : Int) ^ n ≤ 2 ^ 60 := by
  constructor
  · exact_mod_cast Nat.one_le_two_pow
  · exact_mod_cast Nat.pow_le_pow_right (by decide) h
theorem ob_twofold : Ob n_twofold sp_twofold w_twofold := by
  intro ds S Q E hS hd h
  unfold sp_twofold at h
  split at h
  · rename_i h1
    obtain ⟨⟨h2, h3⟩, hq⟩ := h
    simp [w_twofold, startD]
    refine ⟨by omega, by omega, ?_⟩
    refine loop_range (fun i ρ S' => S' = S ∧ ∃ x, ρ = [some (.int h1), some (.int (2 ^ i)), x]) ⟨rfl, none, by simp⟩ ?_ ?_
    · rintro i ρ S' N hi ⟨rfl, x, rfl⟩ hN
      have := two_pow_le i (by omega)
      simp
      refine hN _ _ ⟨rfl, some (.int i), ?_⟩
      simp [Int.pow_succ]
    · rintro ρ S' ⟨rfl, x, rfl⟩
      simp
      exact ret_same hq
  · exact h.elim
theorem ix1 {t w s : D} : atI [t, w, s] 1 = some w := rfl
theorem ix0 {t w s : D} : atI [t, w, s] 0 = some t := rfl
theorem ix2 {t w s : D} : atI [t, w, s] 2 = some s := rfl
theorem ob_cap_of : Ob n_cap_of sp_cap_of w_cap_of := by
  intro ds S Q E hS hd h
  unfold sp_cap_of at h
  split at h
  · rename_i t w s h1
    obtain ⟨⟨h2, h3⟩, hq⟩ := h
    have := two_pow_le h1.toNat (by omega)
    simp [w_cap_of, startD, sp_twofold, ix1, ix2, h2, h3]
    exact ⟨mulR (by omega), mulL (by omega), ret_same hq⟩
  · exact h.elim
theorem ob_calm_of : Ob n_calm_of sp_calm_of w_calm_of := by
  intro ds S Q E hS hd h
  unfold sp_calm_of at h
  split at h
  · rename_i t w s h1
    obtain ⟨⟨h2, h3⟩, hq⟩ := h
    have := two_pow_le h1.toNat (by omega)
    simp [w_calm_of, startD, sp_twofold, ix1, ix2, h2, h3]
    exact ⟨mulR (by omega), mulL (by omega), ret_same hq⟩
  · exact h.elim
theorem ob_law_spread : Ob n_law_spread sp_law_spread w_law_spread := by
  intro ds S Q E hS hd h
  unfold sp_law_spread at h
  split at h
  · rename_i c
    simp [w_law_spread, startD]
    refine ⟨mulR (by omega), ret_same (h _ ?_ ?_)⟩
    · have := Int.emod_nonneg ((c % 2147483629 + 1) * 1103515245 % 2147483629 * ((c % 2147483629 + 1) * 1103515245 % 2147483629)) (show (2147483587 : Int) ≠ 0 by decide)
      omega
    · have := Int.emod_lt_of_pos ((c % 2147483629 + 1) * 1103515245 % 2147483629 * ((c % 2147483629 + 1) * 1103515245 % 2147483629)) (show (0 : Int) < 2147483587 by decide)
      omega
  · exact h.elim
theorem ob_law_whole : Ob n_law_whole sp_law_whole w_law_whole := by
  intro ds S Q E hS hd h
  unfold sp_law_whole at h
  split at h
  · rename_i d
    split at h
    · rename_i a ha
      simp [w_law_whole, startD, ha]
      by_cases h1 : a = "int"
      · subst h1
        simp [isi]
        exact ret_same (by simpa using h)
      · by_cases h2 : a = "bool"
        · subst h2
          simp [isi]
          exact ret_same (by simpa using h)
        · simp [isi, h1, h2]
          exact ret_same (by simpa [h1] using h)
    · exact h.elim
  · exact h.elim
theorem ob_law_two : Ob n_law_two sp_law_two w_law_two := by
  intro ds S Q E hS hd h
  unfold sp_law_two at h
  split at h
  · rename_i h1
    obtain ⟨⟨h2, h3⟩, hq⟩ := h
    simp [w_law_two, startD]
    have hh : h1 = 0 ∨ h1 = 1 ∨ h1 = 2 ∨ h1 = 3 ∨ h1 = 4 := by omega
    rcases hh with rfl | rfl | rfl | rfl | rfl <;> exact ⟨_, rfl, ret_pure hS (by simp only [Cl]) hq⟩
  · exact h.elim
theorem atI_lt {α : Type} {xs : List α} {i : Int} (h0 : 0 ≤ i) (h : i < xs.length) : atI xs i = some (xs[i.toNat]'(by omega)) := by
  unfold atI ixN
  rw [if_pos h0, if_pos h]
  exact List.getElem?_eq_getElem (by omega)
theorem atI_mem {xs : List D} {i : Int} {P : D → Prop} (h0 : 0 ≤ i) (h : i < xs.length) (hp : ∀ x ∈ xs, P x) : ∃ d, atI xs i = some d ∧ P d :=
  ⟨_, atI_lt h0 h, hp _ (List.getElem_mem _)⟩
theorem ob_law_bounds : Ob n_law_bounds sp_law_bounds w_law_bounds := by
  intro ds S Q E hS hd h
  unfold sp_law_bounds at h
  split at h
  · rename_i c
    simp [w_law_bounds, startD, sp_law_spread]
    intro n hn0 hn1
    have h8 : 0 ≤ n % 8 ∧ n % 8 < 8 := by omega
    obtain ⟨d, hd1, t, rfl, ht0, ht4⟩ := atI_mem (xs := [D.int 0, .int 1, .int 1, .int 2, .int 2, .int 2, .int 3, .int 4]) (i := n % 8) (P := fun d => ∃ t, d = .int t ∧ 0 ≤ t ∧ t ≤ 4) h8.1 (by simpa using h8.2) (by simp)
    refine ⟨_, hd1, ?_⟩
    simp
    have hdiv : 1 ≤ 20 / (t + 2) ∧ 20 / (t + 2) ≤ 10 ∧ 20 / (t + 2) * (t + 2) ≤ 20 := by
      have : t = 0 ∨ t = 1 ∨ t = 2 ∨ t = 3 ∨ t = 4 := by omega
      rcases this with rfl | rfl | rfl | rfl | rfl <;> decide
    refine ⟨divOk (by omega) (by omega), by omega, ?_⟩
    generalize hs : 1 + n / 8 % (20 / (t + 2)) = s
    have hs1 : 1 ≤ s ∧ s ≤ 20 / (t + 2) := by
      have h1 := Int.emod_nonneg (n / 8) (show 20 / (t + 2) ≠ 0 by omega)
      have h2 := Int.emod_lt_of_pos (n / 8) (show 0 < 20 / (t + 2) by omega)
      omega
    have hl : 2 ≤ s * (t + 2) ∧ s * (t + 2) ≤ 20 := by
      have h1 : s * (t + 2) ≤ 20 / (t + 2) * (t + 2) := Int.mul_le_mul_of_nonneg_right hs1.2 (by omega)
      have h2 : 1 * 2 ≤ s * (t + 2) := Int.mul_le_mul hs1.1 (by omega) (by decide) (by omega)
      omega
    obtain ⟨d, hd2, m, rfl, hm⟩ := atI_mem (xs := [D.int (n / 320 % 4), D.int (n / 320 % 21)]) (i := n / 160 % 2) (P := fun d => ∃ t : Int, d = .int t ∧ 0 ≤ t) (by omega) (by simp; omega) (by simp; omega)
    refine ⟨mulR (by omega), _, hd2, ?_⟩
    have hg : ∀ l, l = s * (t + 2) → Good t (l + m % (21 - l)) s := fun l e => by
      have h1 := Int.emod_nonneg m (show 21 - l ≠ 0 by omega)
      have h2 := Int.emod_lt_of_pos m (show 0 < 21 - l by omega)
      refine ⟨ht0, ht4, by omega, by omega, by omega, by omega⟩
    simp
    refine ⟨by omega, ret_pure hS (by simp [Cl, Cls']) (h _ _ _ (hg _ rfl))⟩
  · exact h.elim
theorem len_twofold : ∀ ds S Q E, sp_twofold ds S Q E → ds.length = 1 := by
  intro ds S Q E h; unfold sp_twofold at h; split at h <;> first | rfl | exact h.elim
theorem len_cap_of : ∀ ds S Q E, sp_cap_of ds S Q E → ds.length = 2 := by
  intro ds S Q E h; unfold sp_cap_of at h; split at h <;> first | rfl | exact h.elim
theorem len_calm_of : ∀ ds S Q E, sp_calm_of ds S Q E → ds.length = 2 := by
  intro ds S Q E h; unfold sp_calm_of at h; split at h <;> first | rfl | exact h.elim
theorem len_law_spread : ∀ ds S Q E, sp_law_spread ds S Q E → ds.length = 1 := by
  intro ds S Q E h; unfold sp_law_spread at h; split at h <;> first | rfl | exact h.elim
theorem len_law_whole : ∀ ds S Q E, sp_law_whole ds S Q E → ds.length = 1 := by
  intro ds S Q E h; unfold sp_law_whole at h; split at h <;> first | rfl | exact h.elim
theorem len_law_bounds : ∀ ds S Q E, sp_law_bounds ds S Q E → ds.length = 1 := by
  intro ds S Q E h; unfold sp_law_bounds at h; split at h <;> first | rfl | exact h.elim
theorem len_law_two : ∀ ds S Q E, sp_law_two ds S Q E → ds.length = 1 := by
  intro ds S Q E h; unfold sp_law_two at h; split at h <;> first | rfl | exact h.elim
instance (t w s : Int) : Decidable (Good t w s) := by unfold Good; infer_instance
def isB : D → Bool
  | .tup [.int t, .int w, .int s] => decide (Good t w s)
  | _ => false
def tyOk (S : Store) : D → Prop
  | .tup ds => ∀ e ∈ ds, (tyName S e).isSome = true
  | d => (tyName S d).isSome = true
def sp_is_whole : SPf
  | [d], S, Q, _ => match tyName S d with
    | some a => Q (.bl (decide (a = "int"))) S
    | none => False
  | _, _, _, _ => False
def sp_is_bounds : SPf
  | [d], S, Q, _ => tyOk S d ∧ Q (.bl (isB d)) S
  | _, _, _, _ => False
def sp_places_of : SPf
  | [.tup [.int _, .int w, .int _], .int h], S, Q, _ => (0 ≤ h ∧ h ≤ 60) ∧ Q (.int (2 ^ h.toNat * w)) S
  | _, _, _, _ => False
def sp_stretch_of : SPf
  | [.tup [.int _, .int w, .int _], .int h, .int p], S, Q, _ => (0 ≤ h ∧ h ≤ 10 ∧ 1 ≤ w ∧ w ≤ 1000 ∧ 0 ≤ p) ∧ Q (.tup [.int (p / (2 ^ h.toNat * w) * (2 ^ h.toNat * w)), .int (p / (2 ^ h.toNat * w) * (2 ^ h.toNat * w) + 2 ^ h.toNat * w)]) S
  | _, _, _, _ => False
def sp_law_cell : SPf
  | [.rol ds, .int k], S, Q, _ => (0 ≤ k ∧ ∃ ns : List Int, ds = ns.map D.int) ∧ ∀ c : Int, Q (.int c) S
  | _, _, _, _ => False
abbrev n_is_whole : List Str := ["thing"]
def w_is_whole : WS :=
  wsRet (wAnd (wOp1 (pIsi "int") (wVar 0)) (wNot (wOp1 (pIsi "bool") (wVar 0))))

abbrev n_is_bounds : List Str := ["thing", "number", "top", "width", "step"]
def w_is_bounds : WS :=
  wsSeq (wsIf (wOr (wNot (wOp1 (pIsi "tuple") (wVar 0))) (wOp pNe (wB bLen [wVar 0]) (ret (.int 3)))) (wsRet (ret (.bl false))) (wsNil)) (wsSeq (wsForT (tN 1) (wVar 0) (wsIf (wNot (wCall sp_is_whole [wVar 1] [])) (wsRet (ret (.bl false))) (wsNil))) (wsSeq (wsAsg (tT [2, 3, 4]) (wVar 0)) (wsRet (wAnd (wChain pLe pLe (ret (.int 0)) (wVar 2) (ret (.int 4))) (wAnd (wChain pLe pLe (ret (.int 1)) (wVar 3) (ret (.int 20))) (wAnd (wOp pGe (wVar 4) (ret (.int 1))) (wOp pGe (wVar 3) (wOp pMul (wVar 4) (wOp pAdd (wVar 2) (ret (.int 2)))))))))))

abbrev n_places_of : List Str := ["bounds", "height"]
def w_places_of : WS :=
  wsRet (wOp pMul (wCall sp_twofold [wVar 1] []) (wOp pIx (wVar 0) (ret (.int 1))))

abbrev n_stretch_of : List Str := ["bounds", "height", "place", "size", "first"]
def w_stretch_of : WS :=
  wsSeq (wsSet 3 (wCall sp_places_of [wVar 0, wVar 1] [])) (wsSeq (wsSet 4 (wOp pMul (wOp pDiv (wVar 2) (wVar 3)) (wVar 3))) (wsRet (wTup [wVar 4, wOp pAdd (wVar 4) (wVar 3)])))

abbrev n_law_cell : List Str := ["script", "k"]
def w_law_cell : WS :=
  wsSeq (wsIf (wOp pLt (wVar 1) (wB bLen [wVar 0])) (wsRet (wOp pIx (wVar 0) (wVar 1))) (wsNil)) (wsRet (ret (.int 0)))

theorem len_is_whole : ∀ ds S Q E, sp_is_whole ds S Q E → ds.length = 1 := by
  intro ds S Q E h; unfold sp_is_whole at h; split at h <;> first | rfl | exact h.elim
theorem len_is_bounds : ∀ ds S Q E, sp_is_bounds ds S Q E → ds.length = 1 := by
  intro ds S Q E h; unfold sp_is_bounds at h; split at h <;> first | rfl | exact h.elim
theorem len_places_of : ∀ ds S Q E, sp_places_of ds S Q E → ds.length = 2 := by
  intro ds S Q E h; unfold sp_places_of at h; split at h <;> first | rfl | exact h.elim
theorem len_stretch_of : ∀ ds S Q E, sp_stretch_of ds S Q E → ds.length = 3 := by
  intro ds S Q E h; unfold sp_stretch_of at h; split at h <;> first | rfl | exact h.elim
theorem len_law_cell : ∀ ds S Q E, sp_law_cell ds S Q E → ds.length = 2 := by
  intro ds S Q E h; unfold sp_law_cell at h; split at h <;> first | rfl | exact h.elim
theorem ob_is_whole : Ob n_is_whole sp_is_whole w_is_whole := ob_law_whole
theorem ty_int {S : Store} {d : D} (h : tyName S d = some "int") : ∃ i, d = .int i := by
  cases d with
  | int i => exact ⟨i, rfl⟩
  | ref n =>
    simp only [tyName] at h
    split at h <;> simp at h
  | _ => simp [tyName] at h
theorem ob_is_bounds : Ob n_is_bounds sp_is_bounds w_is_bounds := by
  intro ds S Q E hS hd h
  unfold sp_is_bounds at h
  split at h
  · rename_i d
    obtain ⟨ht, hq⟩ := h
    have plain : ∀ a, tyName S d = some a → a ≠ "tuple" → isB d = false → w_is_bounds (startD n_is_bounds [d]) S ⟨fun _ S' => RetQ S.length Q .non S', RetQ S.length Q⟩ (fun c _ S' => RetE S.length E c S') := by
      intro a ha hne hb
      rw [hb] at hq
      by_cases hbool : a = "bool"
      · simp [w_is_bounds, startD, ha, isi, hne]
        exact ret_same hq
      · simp [w_is_bounds, startD, ha, isi, hne]
        exact ret_same hq
    cases d with
    | non => exact plain _ rfl (by decide) rfl
    | bl b => exact plain _ rfl (by decide) rfl
    | int i => exact plain _ rfl (by decide) rfl
    | str s => exact plain _ rfl (by decide) rfl
    | rol ds => simp [tyOk, tyName] at ht
    | adr a => simp [tyOk, tyName] at ht
    | ref n =>
      cases hs : S[n]? with
      | none => simp [tyOk, tyName, hs] at ht
      | some c =>
        cases c with
        | lst ds => exact plain _ (e_ty5 hs) (by decide) rfl
        | dct ds => exact plain _ (e_ty6 hs) (by decide) rfl
        | ins k fs => simp [tyOk, tyName, hs] at ht
    | tup ds =>
      simp [tyOk] at ht
      match ds, ht, hq with
      | [], ht, hq => simp [w_is_bounds, startD, isi]; exact ret_same hq
      | [a], ht, hq => simp [w_is_bounds, startD, isi]; exact ret_same (by simpa [isB] using hq)
      | [a, b], ht, hq => simp [w_is_bounds, startD, isi]; exact ret_same (by simpa [isB] using hq)
      | a :: b :: c :: e :: r, ht, hq =>
        simp [w_is_bounds, startD, isi]
        exact .inr ⟨by omega, ret_same (by simpa [isB] using hq)⟩
      | [a, b, c], ht, hq =>
        obtain ⟨h1, h2, h3⟩ := (by simpa using ht : (tyName S a).isSome ∧ (tyName S b).isSome ∧ (tyName S c).isSome)
        obtain ⟨ta, h1⟩ := Option.isSome_iff_exists.mp h1
        obtain ⟨tb, h2⟩ := Option.isSome_iff_exists.mp h2
        obtain ⟨tc, h3⟩ := Option.isSome_iff_exists.mp h3
        have hno : (ta ≠ "int" ∨ tb ≠ "int" ∨ tc ≠ "int") → Q (.bl false) S := fun h => by
          have : isB (.tup [a, b, c]) = false := by
            cases a <;> cases b <;> cases c <;> simp [isB] at h1 h2 h3 ⊢
            simp_all
          rwa [this] at hq
        simp [w_is_bounds, startD, isi, loopG, sp_is_whole, h1, h2, h3, setAll]
        by_cases ea : ta = "int"
        · by_cases eb : tb = "int"
          · by_cases ec : tc = "int"
            · obtain ⟨i, rfl⟩ := ty_int (ea ▸ h1)
              obtain ⟨j, rfl⟩ := ty_int (eb ▸ h2)
              obtain ⟨k, rfl⟩ := ty_int (ec ▸ h3)
              simp [ea, eb, ec]
              have hf : ¬ Good i j k → Q (.bl false) S := fun h => by simpa [isB, h] using hq
              repeat' split
              · refine ⟨mulR (by omega), ret_same ?_⟩
                have e : decide (k * (i + 2) ≤ j) = decide (Good i j k) := by
                  by_cases h : k * (i + 2) ≤ j
                  · rw [decide_eq_true h, decide_eq_true (by unfold Good; omega)]
                  · rw [decide_eq_false h, decide_eq_false (by unfold Good; omega)]
                rw [e]
                simpa [isB] using hq
              all_goals exact ret_same (hf (by unfold Good; omega))
            · exact .inl ⟨ea, .inl ⟨eb, .inr ⟨ec, ret_same (hno (.inr (.inr ec)))⟩⟩⟩
          · exact .inl ⟨ea, .inr ⟨eb, ret_same (hno (.inr (.inl eb)))⟩⟩
        · exact .inr ⟨ea, ret_same (hno (.inl ea))⟩
  · exact h.elim
theorem ob_places_of : Ob n_places_of sp_places_of w_places_of := by
  intro ds S Q E hS hd h
  unfold sp_places_of at h
  split at h
  · rename_i t w s h1
    obtain ⟨⟨h2, h3⟩, hq⟩ := h
    have := two_pow_le h1.toNat (by omega)
    simp [w_places_of, startD, sp_twofold, ix1, h2, h3]
    exact ⟨mulL (by omega), ret_same hq⟩
  · exact h.elim
theorem pow10 (n : Nat) (h : n ≤ 10) : (1 : Int) ≤ 2 ^ n ∧ (2 : Int) ^ n ≤ 1024 := by
  constructor
  · exact_mod_cast Nat.one_le_two_pow
  · exact_mod_cast Nat.pow_le_pow_right (by decide) h
theorem size_le {h : Nat} {w : Int} (hh : h ≤ 10) (h1 : 1 ≤ w) (h2 : w ≤ 1000) : 1 ≤ 2 ^ h * w ∧ 2 ^ h * w ≤ 1024000 := by
  obtain ⟨a, b⟩ := pow10 h hh
  constructor
  · have := Int.mul_le_mul a h1 (by decide) (by omega); omega
  · have := Int.mul_le_mul b h2 (by omega) (by omega); omega
theorem ob_stretch_of : Ob n_stretch_of sp_stretch_of w_stretch_of := by
  intro ds S Q E hS hd h
  unfold sp_stretch_of at h
  split at h
  · rename_i t w s h1 p
    obtain ⟨⟨h2, h3, h4, h5, h6⟩, hq⟩ := h
    have hs := size_le (h := h1.toNat) (by omega) h4 h5
    simp [w_stretch_of, startD, sp_places_of, h2]
    exact ⟨by omega, divOk (by omega) (by omega), mulR (by omega), ret_same hq⟩
  · exact h.elim
theorem ob_law_cell : Ob n_law_cell sp_law_cell w_law_cell := by
  intro ds S Q E hS hd h
  unfold sp_law_cell at h
  split at h
  · rename_i ds k
    obtain ⟨⟨h0, ns, rfl⟩, hq⟩ := h
    simp [w_law_cell, startD]
    by_cases hk : k < ns.length
    · refine .inr ⟨hk, ?_⟩
      have := atI_lt (xs := ns.map D.int) h0 (by simpa using hk)
      rw [List.getElem_map] at this
      exact ⟨_, this, ret_same (hq _)⟩
    · exact .inl ⟨by omega, ret_same (hq 0)⟩
  · exact h.elim
/-! ### the drawn numbers -/
def Dr (cs : List Int) : Prop := ∀ c ∈ cs, 0 ≤ c ∧ c < 10 ^ 60
theorem comp_spread {n i : Nat} {ds : List D} {ρ : DEnv} {S : Store} {Q : PQ} (hs : S[n]? = some (.lst ds)) (hi : i < ρ.length) (hd : ∀ x ∈ ds, ∃ c, x = D.int c)
    (h : ∀ cs : List Int, cs.length = ds.length → Dr cs → Q (.ref S.length) (S ++ [.lst (cs.map .int)])) : compG (atL n ds) (tN i) wYes (wCall sp_law_spread [wVar i] []) ds [] ρ S Q := by
  refine comp_inv (fun i acc S' => S' = S ∧ ∃ cs : List Int, acc = cs.map .int ∧ cs.length = i ∧ Dr cs) ds 0 [] S ⟨rfl, [], rfl, rfl, fun _ h => nomatch h⟩ (fun i acc S' h => h.1 ▸ hs) ?_ ?_
  · rintro k x acc S' N hx ⟨rfl, cs, rfl, hl, hc⟩ hN
    obtain ⟨c, rfl⟩ := hd x (List.mem_of_getElem? hx)
    have : (ρ.set i (some (.int c)))[i]? = some (some (.int c)) := by simp [hi]
    simp [sp_law_spread, this]
    intro n h0 h1
    refine hN _ _ ⟨rfl, cs ++ [n], by simp, by simp [hl], fun c hc' => ?_⟩
    rcases List.mem_append.mp hc' with h | h
    · exact hc c h
    · simp at h; subst h; exact ⟨h0, h1⟩
  · rintro acc S' ⟨rfl, cs, rfl, hl, hc⟩
    exact h cs (by omega) hc
theorem ints_cut {ns : List Int} {lo hi : Option Int} : ∀ x ∈ cutD (ns.map D.int) lo hi, ∃ c, x = D.int c := fun x hx => by
  obtain ⟨c, _, e⟩ := List.mem_map.mp (mem_cut hx)
  exact ⟨c, e.symm⟩
theorem ints_cons {c : Int} {ds : List D} (h : ∀ x ∈ ds, ∃ c, x = D.int c) : ∀ x ∈ D.int c :: ds, ∃ c, x = D.int c := fun x hx => by
  rcases List.mem_cons.mp hx with rfl | hx
  · exact ⟨_, rfl⟩
  · exact h x hx
theorem rangeD_map (lo : Int) (n : Nat) : rangeD lo n = (List.range n).map fun i => D.int (lo + (i : Nat)) := by
  apply List.ext_getElem?
  intro i
  by_cases h : i < n
  · rw [rangeD_get h]; simp [h]
  · rw [List.getElem?_eq_none (by rw [rangeD_length]; omega), List.getElem?_eq_none (by simp; omega)]
/-- a comprehension over a range that makes nothing on its way -/
theorem comp_range {b : Tg} {c e : W} {Q : PQ} {ρ : DEnv} {S : Store} {lo : Int} {n : Nat} (f : Nat → Option D)
    (ht : ∀ i, i < n → ∀ N : List D → Store → Prop, N (f i).toList S → b (.int (lo + (i : Nat))) ρ fun ρ1 => c ρ1 S (fun d S1 => ∃ t, d = .bl t ∧ if t = true then e ρ1 S1 (fun y S2 => N [y] S2) NoE else N [] S1) NoE)
    (hq : Q (.ref S.length) (S ++ [.lst ((List.range n).filterMap f)])) : compG (fun _ => True) b c e (rangeD lo n) [] ρ S Q := by
  refine comp_inv (fun i acc S' => S' = S ∧ acc = ((List.range n).take i).filterMap f) (rangeD lo n) 0 [] S ⟨rfl, by simp⟩ (fun i acc S' h => trivial) ?_ ?_
  · rintro i x acc S' N hx ⟨rfl, rfl⟩ hN
    have hl : i < n := by
      have := (List.getElem?_eq_some_iff.mp hx).1
      rwa [rangeD_length] at this
    rw [rangeD_get hl] at hx
    cases hx
    have := ht i hl (fun ys S2 => N ((((List.range n).take (0 + i)).filterMap f) ++ ys) S2) ?_
    · simpa using this
    · refine hN _ _ ⟨rfl, ?_⟩
      rw [show 0 + i + 1 = (0 + i) + 1 from rfl, List.take_add_one, List.filterMap_append]
      simp only [Nat.zero_add]
      rw [List.getElem?_range hl]
      cases h : f i <;> simp [h]
  · rintro acc S' ⟨rfl, rfl⟩
    rw [List.take_of_length_le (by simp [rangeD_length])]
    exact hq
theorem comp_rangeY {b : Tg} {e : W} {Q : PQ} {ρ : DEnv} {S : Store} {lo : Int} {n : Nat} (f : Nat → D)
    (ht : ∀ i, i < n → ∀ N : D → Store → Prop, N (f i) S → b (.int (lo + (i : Nat))) ρ fun ρ1 => e ρ1 S N NoE)
    (hq : Q (.ref S.length) (S ++ [.lst ((List.range n).map f)])) : compG (fun _ => True) b wYes e (rangeD lo n) [] ρ S Q := by
  refine comp_range (fun i => some (f i)) (fun i hi N hN => ?_) (by simpa using hq)
  have := ht i hi (fun y S2 => N [y] S2) (by simpa using hN)
  simpa using this
/-- over a list -/
theorem comp_listY {n : Nat} {b : Tg} {e : W} {Q : PQ} {ρ : DEnv} {S : Store} {xs : List D} (f : D → D) (hs : S[n]? = some (.lst xs))
    (ht : ∀ x ∈ xs, ∀ N : D → Store → Prop, N (f x) S → b x ρ fun ρ1 => e ρ1 S N NoE)
    (hq : Q (.ref S.length) (S ++ [.lst (xs.map f)])) : compG (atL n xs) b wYes e xs [] ρ S Q := by
  refine comp_pure (fun x => some (f x)) hs (fun x hx N hN => ?_) (by simpa using hq)
  have := ht x hx (fun y S2 => N [y] S2) (by simpa using hN)
  simpa using this
theorem atI_last {α : Type} {xs : List α} (h : 0 < xs.length) : atI xs (-1) = some (xs[xs.length - 1]'(by omega)) := by
  unfold atI ixN
  rw [if_neg (by omega), if_pos (by omega)]
  simp only [Option.bind_some]
  rw [show (-1 + (xs.length : Int)).toNat = xs.length - 1 by omega]
  exact List.getElem?_eq_getElem (by omega)
/-! ### targets -/
def tg (m z : Int) (k : Nat) : Int := k * z / m
def tgs (m z : Int) : List Int := (List.range m.toNat).map (tg m z)
def sp_targets : SPf
  | [.int m, .int z], S, Q, _ => (0 ≤ m ∧ m ≤ 100000) ∧ Q (.ref S.length) (S ++ [.lst ((tgs m z).map .int)])
  | _, _, _, _ => False
abbrev n_targets : List Str := ["many", "size", "k"]
def w_targets : WS :=
  wsRet (wCompR1 [2] (tN 2) (wVar 0) (wYes) (wOp pDiv (wOp pMul (wVar 2) (wVar 1)) (wVar 0)))
theorem len_targets : ∀ ds S Q E, sp_targets ds S Q E → ds.length = 2 := by
  intro ds S Q E h; unfold sp_targets at h; split at h <;> first | rfl | exact h.elim
theorem ob_targets : Ob n_targets sp_targets w_targets := by
  intro ds S Q E hS hd h
  unfold sp_targets at h
  split at h
  · rename_i m z
    obtain ⟨hm, hq⟩ := h
    simp [w_targets, startD]
    refine ⟨by omega, by omega, comp_rangeY (fun k => .int (tg m z k)) (fun i hi N hN => ?_) ?_⟩
    · simp
      exact ⟨mulL (by omega), divOk (by omega) (by omega), by simpa [tg] using hN⟩
    · refine ret_any ?_
      simpa [tgs, Function.comp_def] using hq
  · exact h.elim
theorem tgs_length (m z : Int) : (tgs m z).length = m.toNat := by simp [tgs]
theorem tgs_get {m z : Int} {k : Nat} (h : k < m.toNat) : (tgs m z)[k]? = some (tg m z k) := by simp [tgs, h]
/-- of a target -/
theorem tg_le {m z : Int} (hm : 0 < m) (k : Nat) : tg m z k * m ≤ k * z := Int.ediv_mul_le _ (by omega)
theorem tg_lt {m z : Int} (hm : 0 < m) (k : Nat) : k * z < (tg m z k + 1) * m := Int.lt_ediv_add_one_mul_self _ hm
theorem tg_step {m z : Int} (hm : 0 < m) (hz : m ≤ z) (k : Nat) : tg m z k < tg m z (k + 1) := by
  have h1 := tg_le (z := z) hm k
  have h2 := tg_lt (z := z) hm (k + 1)
  have h3 : ((k + 1 : Nat) : Int) * z = k * z + z := by rw [show ((k + 1 : Nat) : Int) = (k : Int) + 1 from rfl, Int.add_mul, Int.one_mul]
  refine Int.not_le.mp fun h => ?_
  have h4 : (tg m z (k + 1) + 1) * m ≤ (tg m z k + 1) * m := Int.mul_le_mul_of_nonneg_right (by omega) (by omega)
  rw [Int.add_mul (tg m z k), Int.one_mul] at h4
  omega
theorem tg_zero (m z : Int) : tg m z 0 = 0 := by simp [tg]
theorem tg_nonneg {m z : Int} (hm : 0 < m) (hz : 0 ≤ z) (k : Nat) : 0 ≤ tg m z k := Int.ediv_nonneg (Int.mul_nonneg (by omega) hz) (by omega)
theorem tg_end {m z : Int} (hm : 0 < m) (hz : 0 < z) {k : Nat} (hk : (k : Int) < m) : tg m z k < z := by
  refine Int.ediv_lt_of_lt_mul hm ?_
  rw [Int.mul_comm z m]
  exact Int.mul_lt_mul_of_pos_right hk hz
/-! ### what is never reached -/
def wDead : W := fun _ _ _ _ => False
def wsDead : WS := fun _ _ _ _ => False
def sp_dead : SPf := fun _ _ _ _ => False
theorem se_dead {X : Cx} {e : Expr} {WW : WX} : PE X e (tm X.K X.mg WW wDead) := ⟨fun pins s σ H Q I h => by
  obtain ⟨φ, ρ, S, rs, re, D', E', hw, hn⟩ := h
  exact hw.elim⟩
theorem ss_dead {X : Cx} {e : Stmt} {WW : WX} : PS X e (tsm X.K X.mg WW wsDead) := ⟨fun pins s σ H Q I h => by
  obtain ⟨φ, ρ, S, rs, re, D', E', hw, hn⟩ := h
  exact hw.elim⟩
theorem cal_dead {P : Program} {w : World} {K : PySem.W.Frag} {mg : Str → Option Value} {base : Heap} {x qual : Str} {st : Stmt} {f : Addr} {fd : FuncData} {ps : List Str} {k : Nat} (F : Fun K x qual st f fd) (hm : mg x = some (.ref f)) (b : Binds K fd ps []) :
    Cal P w K mg base x k ps sp_dead := by
  refine ⟨f, fd, ⟨fun vs H Q E h => ?_, fun A outer s H args us vs Q E _ _ _ _ h => ?_⟩, hm, F.kp, b⟩
  · obtain ⟨φ, S, ds, rs, rd, Q', E', h, _⟩ := h
    exact h.elim
  · obtain ⟨φ, S, ds, rs, rd, Q', E', h, _⟩ := h
    exact h.elim
/-! ### shelves -/
def things (ps : List Pl) : List Th := ps.filterMap id
def Straight (ps : List Pl) : Prop := (things ps).Pairwise fun a b => a.1 < b.1
abbrev shp (ps : List Pl) : Cell := .lst (ps.map ePl.enc)
abbrev thp (ts : List Th) : Cell := .lst (ts.map eTh.enc)
theorem things_app (a b : List Pl) : things (a ++ b) = things a ++ things b := by simp [things]
theorem things_some (t : Th) : things [some t] = [t] := rfl
theorem things_none : things [none] = [] := rfl
@[simp] theorem set_at {S G : Store} {c d : Cell} : (S ++ c :: G).set S.length d = S ++ d :: G := by simp
@[simp] theorem get_at {S G : Store} {c : Cell} : (S ++ c :: G)[S.length]? = some c := by simp
theorem isT_at {S G : Store} {ds : List D} : isT "list" (S ++ .lst ds :: G) (.ref S.length) := isT_list get_at
theorem cutD_nat {α : Type} (f : α → D) (xs : List α) {a b : Int} (ha : 0 ≤ a) (hb : 0 ≤ b) : cutD (xs.map f) (some a) (some b) = (((xs.take b.toNat).drop a.toNat)).map f := by
  unfold cutD
  rw [show a = ((a.toNat : Nat) : Int) by omega, show b = ((b.toNat : Nat) : Int) by omega, HT.sIx_nat, HT.sIx_nat]
  simp only [Int.toNat_natCast]
  rw [List.drop_take, ← List.map_drop, ← List.map_take]
  congr 1
  simp only [List.length_map]
  by_cases h : a.toNat ≤ xs.length
  · rw [Nat.min_eq_left h]
    by_cases h2 : b.toNat ≤ xs.length
    · rw [Nat.min_eq_left h2]
    · rw [Nat.min_eq_right (by omega), List.take_of_length_le (by simp), List.take_of_length_le (by simp; omega)]
  · rw [Nat.min_eq_right (show xs.length ≤ a.toNat by omega), List.drop_of_length_le (Nat.le_refl _), List.drop_of_length_le (show xs.length ≤ a.toNat by omega)]
    simp
theorem comp_full {n i : Nat} {ps : List Pl} {ρ : DEnv} {S : Store} {Q : PQ} (hs : S[n]? = some (shp ps)) (hi : i < ρ.length)
    (h : Q (.ref S.length) (S ++ [thp (things ps)])) : compG (atL n (ps.map ePl.enc)) (tN i) (wOp pNe (wVar i) (wTup [])) (wVar i) (ps.map ePl.enc) [] ρ S Q := by
  refine comp_pure (fun x => match x with | .tup [] => none | x => some x) hs (fun x hx N hN => ?_) ?_
  · obtain ⟨p, _, rfl⟩ := List.mem_map.mp hx
    have : ∀ d, (ρ.set i d)[i]? = some d := fun d => by simp [hi]
    cases p with
    | none => simpa [ePl, this] using hN
    | some p => simpa [ePl, this] using hN
  · have : (ps.map ePl.enc).filterMap (fun x => match x with | .tup [] => none | x => some x) = (things ps).map eTh.enc := by
      rw [List.filterMap_map, things, List.map_filterMap]
      congr 1
      funext p
      cases p <;> rfl
    rw [this]; exact h
theorem straight_none {ps : List Pl} (h : Straight ps) : Straight (ps ++ [none]) := by
  unfold Straight at *
  rw [things_app, things_none, List.append_nil]; exact h
theorem straight_some {ps : List Pl} {t : Th} (h : Straight ps) (hk : ∀ u ∈ things ps, u.1 < t.1) : Straight (ps ++ [some t]) := by
  unfold Straight at *
  rw [things_app, things_some, List.pairwise_append]
  exact ⟨h, by simp, fun a ha b hb => by simp at hb; subst hb; exact hk a ha⟩
def sp_law_mixed : SPf
  | [.int _, .int _], S, Q, _ => ∀ n : Int, 0 ≤ n → n < 2147483629 → Q (.int n) S
  | _, _, _, _ => False
def sp_law_shelf : SPf
  | [.tup [.int t, .int w, .int s], .int h, .int _, .int m], S, Q, _ => (0 ≤ h ∧ h ≤ 4 ∧ 1 ≤ w ∧ w ≤ 20) ∧ ∀ ps : List Pl, ps.length = 2 ^ h.toNat * w.toNat → Straight ps → ((things ps).length : Int) ≤ max 0 m → Q (.ref S.length) (S ++ [shp ps])
  | _, _, _, _ => False
def sp_held : SPf
  | [.ref n, .int a, .int b], S, Q, _ => ∃ ps, S[n]? = some (shp ps) ∧ (0 ≤ a ∧ 0 ≤ b) ∧ Q (.int (things ((ps.take b.toNat).drop a.toNat)).length) S
  | _, _, _, _ => False
abbrev n_law_mixed : List Str := ["cell", "k", "number"]
def w_law_mixed : WS :=
  wsSeq (wsSet 2 (wOp pMod (wOp pMul (wOp pAdd (wOp pMod (wVar 0) (ret (.int 2147483629))) (ret (.int 1))) (ret (.int 1103515245))) (ret (.int 2147483629)))) (wsSeq (wsSet 2 (wOp pMod (wOp pAdd (wOp pAdd (wOp pMul (wVar 2) (wVar 2)) (wOp pMul (wVar 1) (ret (.int 69621)))) (ret (.int 12345))) (ret (.int 2147483587)))) (wsRet (wOp pMod (wOp pMul (wVar 2) (wVar 2)) (ret (.int 2147483629)))))

abbrev n_law_shelf : List Str := ["bounds", "height", "cell", "most", "shelf", "count", "key", "place", "number"]
def w_law_shelf : WS :=
  wsSeq (wsSet 4 (wLst [])) (wsSeq (wsSet 5 (ret (.int 0))) (wsSeq (wsSet 6 (wOp pSub (wOp pMod (wVar 2) (wOp pPow (ret (.int 10)) (ret (.int 57)))) (wOp pMul (ret (.int 5)) (wOp pPow (ret (.int 10)) (ret (.int 56)))))) (wsSeq (wsForR1 (tN 7) (wOp pMul (wCall sp_law_two [wVar 1] []) (wOp pIx (wVar 0) (ret (.int 1)))) (wsSeq (wsSet 8 (wCall sp_law_mixed [wVar 2, wOp pAdd (wVar 7) (ret (.int 11))] [])) (wsIf (wAnd (wOp pLt (wOp pMod (wVar 8) (ret (.int 4))) (wOp pMod (wCall sp_law_mixed [wVar 2, wOp pAdd (wOp pDiv (wVar 7) (wOp pIx (wVar 0) (ret (.int 1)))) (ret (.int 900))] []) (ret (.int 6)))) (wOp pLt (wVar 5) (wVar 3))) (wsSeq (wsSet 6 (wOp pAdd (wOp pAdd (wVar 6) (ret (.int 1))) (wOp pMul (wOp pMod (wOp pDiv (wVar 8) (ret (.int 4))) (ret (.int 3))) (wOp pIx (wLst [ret (.int 1), wOp pPow (ret (.int 10)) (ret (.int 40))]) (wOp pMod (wVar 2) (ret (.int 2))))))) (wsSeq (wsExpr (wM "list" mAppend (wVar 4) [wTup [wVar 6, wOp pSub (wOp pMod (wOp pDiv (wVar 8) (ret (.int 12))) (wOp pPow (ret (.int 10)) (ret (.int 8)))) (ret (.int 3))]])) (wsSet 5 (wOp pAdd (wVar 5) (ret (.int 1)))))) (wsExpr (wM "list" mAppend (wVar 4) [wTup []]))))) (wsRet (wVar 4)))))

abbrev n_held : List Str := ["shelf", "first", "behind", "thing"]
def w_held : WS :=
  wsRet (wB bLen [wComp [3] (tN 3) (wSl (wVar 0) (some (wVar 1)) (some (wVar 2))) (wOp pNe (wVar 3) (wTup [])) (wVar 3)])

theorem len_law_mixed : ∀ ds S Q E, sp_law_mixed ds S Q E → ds.length = 2 := by
  intro ds S Q E h; unfold sp_law_mixed at h; split at h <;> first | rfl | exact h.elim
theorem len_law_shelf : ∀ ds S Q E, sp_law_shelf ds S Q E → ds.length = 4 := by
  intro ds S Q E h; unfold sp_law_shelf at h; split at h <;> first | rfl | exact h.elim
theorem len_held : ∀ ds S Q E, sp_held ds S Q E → ds.length = 3 := by
  intro ds S Q E h; unfold sp_held at h; split at h <;> first | rfl | exact h.elim
theorem ob_law_mixed : Ob n_law_mixed sp_law_mixed w_law_mixed := by
  intro ds S Q E hS hd h
  unfold sp_law_mixed at h
  split at h
  · rename_i c k
    simp [w_law_mixed, startD]
    generalize (c % 2147483629 + 1) * 1103515245 % 2147483629 * ((c % 2147483629 + 1) * 1103515245 % 2147483629) + k * 69621 + 12345 = x
    exact ⟨mulR (by omega), mulR (by omega), ret_same (h _ (by omega) (by omega))⟩
  · exact h.elim
theorem ob_held : Ob n_held sp_held w_held := by
  intro ds S Q E hS hd h
  unfold sp_held at h
  split at h
  · rename_i n a b
    obtain ⟨ps, hn, hab, hq⟩ := h
    simp [w_held, startD, hn, atL]
    rw [cutD_nat _ _ hab.1 hab.2]
    refine comp_full (by simp) (by simp) ?_
    simp
    exact ret_pure hS (by simp only [Cl]) hq
  · exact h.elim
theorem ob_law_shelf : Ob n_law_shelf sp_law_shelf w_law_shelf := by
  intro ds S Q E hS hd h
  unfold sp_law_shelf at h
  split at h
  · rename_i t w s h1 c m
    obtain ⟨⟨h2, h3, h4, h5⟩, hq⟩ := h
    simp [w_law_shelf, startD, sp_law_two, h2, h3, ix1]
    have hp := two_pow_le h1.toNat (by omega)
    have hsz := size_le (h := h1.toNat) (by omega) h4 (by omega)
    refine ⟨mulL (by omega), by omega, by omega, ?_⟩
    refine loop_range (fun i ρ S' => ∃ ps G x y, ∃ cnt key : Int, S' = S ++ shp ps :: G ∧ ρ = [some (bnd t w s), some (.int h1), some (.int c), some (.int m), some (.ref S.length), some (.int cnt), some (.int key), x, y] ∧
      ps.length = i ∧ Straight ps ∧ cnt = (things ps).length ∧ cnt ≤ max 0 m ∧ ∀ t ∈ things ps, t.1 ≤ key) ⟨[], [], none, none, 0, _, rfl, rfl, rfl, .nil, rfl, by omega, fun _ h => nomatch h⟩ ?_ ?_
    · rintro i ρ S' N hi ⟨ps, G, x, y, cnt, key, rfl, rfl, hl, hst, hcnt, hcm, hk⟩ hN
      have hi2 : (i : Int) < 1024000 := by omega
      simp [sp_law_mixed, ix1]
      have fin0 : ∀ d, N [some (bnd t w s), some (D.int h1), some (D.int c), some (D.int m), some (D.ref S.length), some (D.int cnt), some (D.int key), some (D.int i), d] (S ++ .lst (ps.map ePl.enc ++ [D.tup []]) :: G) := fun d =>
        hN _ _ ⟨ps ++ [none], G, _, _, cnt, key, by simp [ePl], rfl, by simp [hl], straight_none hst, by simp [things_app, things_none, hcnt], hcm, fun t ht => hk t (by simpa [things_app, things_none] using ht)⟩
      have fin1 : ∀ G2 (k2 v : Int) d, cnt < m → key < k2 → N [some (bnd t w s), some (D.int h1), some (D.int c), some (D.int m), some (D.ref S.length), some (D.int (cnt + 1)), some (D.int k2), some (D.int i), d] (S ++ .lst (ps.map ePl.enc ++ [D.tup [.int k2, .int v]]) :: G2) := fun G2 k2 v d hc hlt =>
        hN _ _ ⟨ps ++ [some (k2, v)], G2, _, _, cnt + 1, k2, by simp [ePl], rfl, by simp [hl], straight_some hst (fun u hu => by have := hk u hu; omega), by simp [things_app, things_some, hcnt], by omega, fun t ht => by
          rw [things_app, things_some] at ht
          rcases List.mem_append.mp ht with ht | ht
          · have := hk t ht; omega
          · simp at ht; subst ht; exact Int.le_refl _⟩
      have hlen : ps.length < sizeLine := by
        have : 1024000 < sizeLine := by decide
        omega
      intro a ha0 ha1
      refine ⟨divOk (by omega) (by omega), fun b hb0 hb1 => ?_⟩
      split
      · by_cases hcm2 : cnt < m
        · refine .inr ⟨hcm2, atI_mem (by omega) (by simp; omega) ?_⟩
          have step : ∀ v : Int, 0 ≤ v → ∀ k2, k2 = a / 4 % 3 * v → key < key + 1 + k2 := fun v hv k2 e => by
            have := Int.mul_nonneg (show 0 ≤ a / 4 % 3 by omega) hv
            omega
          simp [isT_at, hlen]
          exact ⟨fin1 _ _ _ _ hcm2 (by omega), mulL (by omega), fin1 _ _ _ _ hcm2 (by omega)⟩
        · exact .inl ⟨by omega, isT_at, hlen, fin0 _⟩
      · exact ⟨isT_at, hlen, fin0 _⟩
    · rintro ρ S' ⟨ps, G, x, y, cnt, key, rfl, rfl, hl, hst, hcnt, hcm, hk⟩
      simp
      have hl2 : ps.length = 2 ^ h1.toNat * w.toNat := by
        rw [hl]
        have : (2 : Int) ^ h1.toNat * w = ((2 ^ h1.toNat * w.toNat : Nat) : Int) := by
          rw [Int.natCast_mul, Int.toNat_of_nonneg (by omega)]
          simp
        omega
      exact ret_list hS (fun i hi => by rw [List.getElem?_append_left hi]) get_at (Nat.le_refl _) (cls_map ePl _ _) (hq ps hl2 hst (by omega))
  · exact h.elim
def lessAt (ps : List Pl) (key : Int) (i : Nat) : Bool := match ps[i]? with
  | some (some t) => decide (t.1 < key)
  | _ => false
def keyAt (ps : List Pl) (key : Int) (i : Nat) : Bool := match ps[i]? with
  | some (some t) => decide (t.1 = key)
  | _ => false
def seatN (ps : List Pl) (key : Int) : Nat → Nat
  | 0 => 0
  | i + 1 => if lessAt ps key i = true then i else seatN ps key i
def optI : Option Nat → D
  | some i => .int i
  | none => .non
def placeN (ps : List Pl) (key : Int) : Option Nat := (List.range ps.length).find? (keyAt ps key)
def sp_seat_of : SPf
  | [.ref n, .int key], S, Q, _ => ∃ ps, S[n]? = some (shp ps) ∧ ps.length ≤ 100000 ∧ Q (.int (seatN ps key ps.length)) S
  | _, _, _, _ => False
def sp_place_of : SPf
  | [.ref n, .int key], S, Q, _ => ∃ ps, S[n]? = some (shp ps) ∧ ps.length ≤ 100000 ∧ Q (optI (placeN ps key)) S
  | _, _, _, _ => False
def sp_law_key : SPf
  | [.ref n, .int _], S, Q, _ => ∃ ps, S[n]? = some (shp ps) ∧ ∀ k : Int, Q (.int k) S
  | _, _, _, _ => False
abbrev n_law_key : List Str := ["shelf", "cell", "things", "thing", "far"]
def w_law_key : WS :=
  wsSeq (wsSet 2 (wComp [3] (tN 3) (wVar 0) (wOp pNe (wVar 3) (wTup [])) (wVar 3))) (wsSeq (wsSet 4 (wOp pMod (wVar 1) (wOp pPow (ret (.int 10)) (ret (.int 58))))) (wsSeq (wsIf (wOr (wOp pEq (wVar 2) (wLst [])) (wOp pEq (wOp pMod (wVar 1) (ret (.int 5))) (ret (.int 4)))) (wsRet (wOp pIx (wLst [wVar 4, wOp1 pNeg (wVar 4)]) (wOp pMod (wOp pDiv (wVar 1) (ret (.int 5))) (ret (.int 2))))) (wsNil)) (wsRet (wOp pAdd (wOp pIx (wOp pIx (wVar 2) (wOp pMod (wOp pDiv (wVar 1) (ret (.int 5))) (wB bLen [wVar 2]))) (ret (.int 0))) (wOp pIx (wLst [wOp1 pNeg (ret (.int 1)), ret (.int 0), ret (.int 1), ret (.int 2)]) (wOp pMod (wOp pDiv (wVar 1) (ret (.int 500))) (ret (.int 4))))))))

abbrev n_seat_of : List Str := ["shelf", "key", "seat", "place"]
def w_seat_of : WS :=
  wsSeq (wsSet 2 (ret (.int 0))) (wsSeq (wsForR1 (tN 3) (wB bLen [wVar 0]) (wsIf (wAnd (wOp pNe (wOp pIx (wVar 0) (wVar 3)) (wTup [])) (wOp pLt (wOp pIx (wOp pIx (wVar 0) (wVar 3)) (ret (.int 0))) (wVar 1))) (wsSet 2 (wVar 3)) (wsNil))) (wsRet (wVar 2)))

abbrev n_place_of : List Str := ["shelf", "key", "place"]
def w_place_of : WS :=
  wsSeq (wsForR1 (tN 2) (wB bLen [wVar 0]) (wsIf (wAnd (wOp pNe (wOp pIx (wVar 0) (wVar 2)) (wTup [])) (wOp pEq (wOp pIx (wOp pIx (wVar 0) (wVar 2)) (ret (.int 0))) (wVar 1))) (wsRet (wVar 2)) (wsNil))) (wsRet (ret .non))

theorem len_seat_of : ∀ ds S Q E, sp_seat_of ds S Q E → ds.length = 2 := by
  intro ds S Q E h; unfold sp_seat_of at h; split at h <;> first | rfl | exact h.elim
theorem len_place_of : ∀ ds S Q E, sp_place_of ds S Q E → ds.length = 2 := by
  intro ds S Q E h; unfold sp_place_of at h; split at h <;> first | rfl | exact h.elim
theorem len_law_key : ∀ ds S Q E, sp_law_key ds S Q E → ds.length = 2 := by
  intro ds S Q E h; unfold sp_law_key at h; split at h <;> first | rfl | exact h.elim
theorem shelf_len {n k : Nat} {w : Int} (h : n = 2 ^ k * w.toNat) (hk : k ≤ 4) (h1 : 1 ≤ w) (h2 : w ≤ 20) : 1 ≤ n ∧ n ≤ 320 := by
  have e : k = 0 ∨ k = 1 ∨ k = 2 ∨ k = 3 ∨ k = 4 := by omega
  subst h
  rcases e with rfl | rfl | rfl | rfl | rfl <;> omega
theorem app_get {S G : Store} {k : Nat} {c : Cell} (h : S[k]? = some c) : (S ++ G)[k]? = some c := by
  rw [List.getElem?_append_left (List.getElem?_eq_some_iff.mp h).1]; exact h
theorem pl_at {ps : List Pl} {i : Nat} (h : i < ps.length) : atI (ps.map ePl.enc) (i : Int) = some (ePl.enc ps[i]) := by
  rw [atI_lt (by omega) (by simp; omega)]
  simp
theorem th_at {ts : List Th} {i : Nat} (h : i < ts.length) : atI (ts.map eTh.enc) (i : Int) = some (eTh.enc ts[i]) := by
  rw [atI_lt (by omega) (by simp; omega)]
  simp
theorem jx0 {a b : D} : atI [a, b] 0 = some a := rfl
theorem jx1 {a b : D} : atI [a, b] 1 = some b := rfl
@[simp] theorem enc_none : ePl.enc none = .tup [] := rfl
@[simp] theorem enc_some {t : Th} : ePl.enc (some t) = .tup [.int t.1, .int t.2] := rfl
@[simp] theorem enc_th {t : Th} : eTh.enc t = .tup [.int t.1, .int t.2] := rfl
theorem ob_seat_of : Ob n_seat_of sp_seat_of w_seat_of := by
  intro ds S Q E hS hd h
  unfold sp_seat_of at h
  split at h
  · rename_i n key
    obtain ⟨ps, hn, hl, hq⟩ := h
    simp [w_seat_of, startD, hn]
    refine ⟨by omega, ?_⟩
    refine loop_range (fun i ρ S' => S' = S ∧ ∃ x, ρ = [some (.ref n), some (.int key), some (.int (seatN ps key i)), x]) ⟨rfl, none, rfl⟩ ?_ ?_
    · rintro i ρ S' N hi ⟨rfl, x, rfl⟩ hN
      have e := pl_at (ps := ps) (i := i) hi
      have fin := hN _ _ ⟨rfl, some (.int i), rfl⟩
      simp [hn, e]
      cases e2 : ps[i] with
      | none =>
        simp
        simpa [seatN, lessAt, List.getElem?_eq_getElem hi, e2] using fin
      | some t =>
        simp [jx0]
        by_cases h : t.1 < key
        · refine .inr ⟨h, ?_⟩
          simpa [seatN, lessAt, List.getElem?_eq_getElem hi, e2, h] using fin
        · refine .inl ⟨by omega, ?_⟩
          simpa [seatN, lessAt, List.getElem?_eq_getElem hi, e2, h] using fin
    · rintro ρ S' ⟨rfl, x, rfl⟩
      simp
      exact ret_same hq
  · exact h.elim
theorem ob_place_of : Ob n_place_of sp_place_of w_place_of := by
  intro ds S Q E hS hd h
  unfold sp_place_of at h
  split at h
  · rename_i n key
    obtain ⟨ps, hn, hl, hq⟩ := h
    simp [w_place_of, startD, hn]
    refine ⟨by omega, ?_⟩
    refine loop_range (fun i ρ S' => S' = S ∧ (∃ x, ρ = [some (.ref n), some (.int key), x]) ∧ ∀ j, j < i → keyAt ps key j = false) ⟨rfl, ⟨none, rfl⟩, fun _ h => absurd h (by omega)⟩ ?_ ?_
    · rintro i ρ S' N hi ⟨rfl, ⟨x, rfl⟩, hno⟩ hN
      have e := pl_at (ps := ps) (i := i) hi
      have fin := fun h => hN [some (.ref n), some (.int key), some (.int i)] S' ⟨rfl, ⟨some (.int i), rfl⟩, fun j hj => if hji : j = i then hji ▸ h else hno j (by omega)⟩
      simp [hn, e]
      cases e2 : ps[i] with
      | none =>
        simp
        exact fin (by simp [keyAt, List.getElem?_eq_getElem hi, e2])
      | some t =>
        simp [jx0]
        by_cases h : t.1 = key
        · refine .inr ⟨h, ret_same ?_⟩
          have : placeN ps key = some i := by
            unfold placeN
            rw [List.find?_range_eq_some]
            exact ⟨by simp [keyAt, List.getElem?_eq_getElem hi, e2, h], by simpa using hi, fun j hj => by simp [hno j hj]⟩
          rw [this] at hq
          exact hq
        · refine .inl ⟨h, fin (by simp [keyAt, List.getElem?_eq_getElem hi, e2, h])⟩
    · rintro ρ S' ⟨rfl, ⟨x, rfl⟩, hno⟩
      simp
      have : placeN ps key = none := by
        unfold placeN
        rw [List.find?_eq_none]
        intro j hj
        simp at hj
        simp [hno j hj]
      rw [this] at hq
      exact ret_same hq
  · exact h.elim
theorem ob_law_key : Ob n_law_key sp_law_key w_law_key := by
  intro ds S Q E hS hd h
  unfold sp_law_key at h
  split at h
  · rename_i n c
    obtain ⟨ps, hn, hq⟩ := h
    have fin : ∀ (k : Int) (G : Store), RetQ S.length Q (.int k) (S ++ G) := fun k G => ret_pure hS (by simp only [Cl]) (hq k)
    simp [w_law_key, startD, hn, atL]
    refine comp_full hn (by simp) ?_
    simp
    refine eq_list eTh (xs := things ps) (ys := []) (by simp) (by simp) ?_
    simp
    have far : ∃ x, atI [D.int (c % 10000000000000000000000000000000000000000000000000000000000), D.int (-(c % 10000000000000000000000000000000000000000000000000000000000))] (c / 5 % 2) = some x ∧ RetQ S.length Q x (S ++ [thp (things ps), Cell.lst [], Cell.lst [D.int (c % 10000000000000000000000000000000000000000000000000000000000), D.int (-(c % 10000000000000000000000000000000000000000000000000000000000))]]) := by
      refine atI_mem (by omega) (by simp; omega) ?_
      simp
      exact ⟨fin _ _, fin _ _⟩
    split
    · exact far
    · rename_i hne
      by_cases h4 : c % 5 = 4
      · exact .inr ⟨h4, far⟩
      · have hpos : 0 < (things ps).length := List.length_pos_iff.mpr hne
        refine .inl ⟨h4, hpos, ?_⟩
        have m0 := Int.emod_nonneg (c / 5) (show ((things ps).length : Int) ≠ 0 by omega)
        have m1 := Int.emod_lt_of_pos (c / 5) (show (0 : Int) < (things ps).length by omega)
        refine atI_mem m0 (by simpa using m1) ?_
        intro x hx
        obtain ⟨t, _, rfl⟩ := List.mem_map.mp hx
        simp [jx0]
        refine atI_mem (by omega) (by simp; omega) ?_
        simp
        exact ⟨fin _ _, fin _ _, fin _ _, fin _ _⟩
  · exact h.elim
@[simp] theorem e_subS {o i e : W} {ρ : DEnv} {S : Store} {DD : DEnds} {E : PX} : wsSub o i e ρ S DD E = e ρ S (fun d S1 => o ρ S1 (fun x S2 => i ρ S2 (fun y S3 => ∃ n k xs j, x = .ref n ∧ y = .int k ∧ S3[n]? = some (.lst xs) ∧ ixN xs.length k = some j ∧ DD.nx ρ (S3.set n (.lst (xs.set j d)))) E) E) E := rfl
/-! ### writes -/
abbrev Wr := Int × Pl
abbrev wrp (ws : List Wr) : Cell := .lst (ws.map eWr.enc)
def OkW (n : Nat) (ws : List Wr) : Prop := ∀ w ∈ ws, 0 ≤ w.1 ∧ w.1 < n
def doneP (ps : List Pl) : List Wr → List Pl
  | [] => ps
  | w :: ws => doneP (ps.set w.1.toNat w.2) ws
@[simp] theorem enc_wr {w : Wr} : eWr.enc w = .tup [.int w.1, ePl.enc w.2] := rfl
theorem doneP_len : ∀ (ws : List Wr) (ps : List Pl), (doneP ps ws).length = ps.length
  | [], ps => rfl
  | w :: ws, ps => by unfold doneP; rw [doneP_len ws]; simp
theorem doneP_app : ∀ (a b : List Wr) (ps : List Pl), doneP ps (a ++ b) = doneP (doneP ps a) b
  | [], b, ps => rfl
  | w :: a, b, ps => by
    show doneP (ps.set w.1.toNat w.2) (a ++ b) = _
    rw [doneP_app a b]; rfl
theorem ixN_ok {n : Nat} {i : Int} (h0 : 0 ≤ i) (h : i < n) : ixN n i = some i.toNat := by
  unfold ixN; rw [if_pos h0, if_pos h]
theorem map_set {α : Type} (f : α → D) (ps : List α) (i : Nat) (p : α) : (ps.map f).set i (f p) = (ps.set i p).map f := by rw [List.map_set]
def sp_done : SPf
  | [.ref n, .ref m], S, Q, _ => ∃ ps ws, S[n]? = some (shp ps) ∧ S[m]? = some (wrp ws) ∧ OkW ps.length ws ∧ Q (.ref S.length) (S ++ [shp (doneP ps ws)])
  | _, _, _, _ => False
theorem len_done : ∀ ds S Q E, sp_done ds S Q E → ds.length = 2 := by
  intro ds S Q E h; unfold sp_done at h; split at h <;> first | rfl | exact h.elim
abbrev n_done : List Str := ["shelf", "writes", "slab", "place", "thing"]
def w_done : WS :=
  wsSeq (wsSet 2 (wB bList [wVar 0])) (wsSeq (wsFor (tT [3, 4]) (wVar 1) (wsSub (wVar 2) (wVar 3) (wVar 4))) (wsRet (wVar 2)))
theorem take_next {α : Type} {xs : List α} {i : Nat} (h : i < xs.length) : xs.take (i + 1) = xs.take i ++ [xs[i]] := by
  rw [List.take_add_one, List.getElem?_eq_getElem h]; rfl
theorem ob_done : Ob n_done sp_done w_done := by
  intro ds S Q E hS hd h
  unfold sp_done at h
  split at h
  · rename_i n m
    obtain ⟨ps, ws, hn, hm, ho, hq⟩ := h
    have hn2 : n < S.length := (List.getElem?_eq_some_iff.mp hn).1
    have hm2 : m < S.length := (List.getElem?_eq_some_iff.mp hm).1
    simp [w_done, startD, hn, atL]
    refine ⟨_, app_get hm, loop_list (S := S ++ [shp ps]) (fun i ρ S' => S' = S ++ [shp (doneP ps (ws.take i))] ∧ ∃ x y, ρ = [some (.ref n), some (.ref m), some (.ref S.length), x, y]) ⟨by simp [doneP], none, none, rfl⟩ (fun i ρ S' h => by rw [h.1]; exact app_get hm) ?_ ?_⟩
    · rintro i x ρ S' N hx ⟨rfl, a, b, rfl⟩ hN
      have hi : i < ws.length := by simpa using (List.getElem?_eq_some_iff.mp hx).1
      rw [List.getElem?_map, List.getElem?_eq_getElem hi] at hx
      simp at hx
      subst hx
      obtain ⟨w0, w1⟩ := ho ws[i] (List.getElem_mem _)
      simp [setAll]
      refine ⟨_, ixN_ok w0 (by rw [doneP_len]; exact w1), hN _ _ ⟨?_, _, _, rfl⟩⟩
      rw [map_set, take_next hi, doneP_app]
      simp [doneP]
    · rintro ρ S' ⟨rfl, a, b, rfl⟩
      simp
      exact ret_any hq
  · exact h.elim
/-- two lists in a list -/
theorem dpy_two {S : Store} {i a b : Nat} {α β : Type} [DecidableEq α] [DecidableEq β] (e : En α) (f : En β) {xs : List α} {ys : List β} (h : S[i]? = some (.lst [.ref a, .ref b])) (ha : S[a]? = some (.lst (xs.map e.enc))) (hb : S[b]? = some (.lst (ys.map f.enc))) :
    DPy S (.ref i) (.list [.list (xs.map e.py), .list (ys.map f.py)]) := .lst h (.cons (.lst ha (dpys_map e S xs)) (.cons (.lst hb (dpys_map f S ys)) .nil))
theorem shaped_two {α β : Type} [DecidableEq α] [DecidableEq β] (e : En α) (f : En β) (xs : List α) (ys : List β) : SeqAt.shaped (.list [.list (xs.map e.py), .list (ys.map f.py)]) = true := by
  have h1 := depAll_map e xs
  have h2 := depAll_map f ys
  unfold SeqAt.shaped
  rw [Bool.and_eq_true]
  refine ⟨by simp only [PyData.canLay0, PyData.canLayAll0, layAll_map e xs, layAll_map f ys, Bool.and_self, Bool.true_and], decide_eq_true ?_⟩
  simp only [PyData.depth, PyData.depthAll]
  omega
theorem ne_two {S : Store} {ρ : DEnv} {Q : PQ} {E : PX} {i a b j c d : Nat} {α β : Type} [DecidableEq α] [DecidableEq β] (e : En α) (f : En β) {xs zs : List α} {ys us : List β} (h : S[i]? = some (.lst [.ref a, .ref b])) (ha : S[a]? = some (.lst (xs.map e.enc))) (hb : S[b]? = some (.lst (ys.map f.enc)))
    (h2 : S[j]? = some (.lst [.ref c, .ref d])) (hc : S[c]? = some (.lst (zs.map e.enc))) (hd : S[d]? = some (.lst (us.map f.enc))) (q : Q (.bl (!decide (xs = zs ∧ ys = us))) S) : pNe (.ref i) (.ref j) ρ S Q E :=
  pNe_gen ⟨_, _, dpy_two e f h ha hb, dpy_two e f h2 hc hd, shaped_two e f xs ys, shaped_two e f zs us, by
    simpa only [PyData.eqv, PyData.eqvAll, eqvAll_map, Bool.and_true, Bool.decide_and] using q⟩
/-! ### while -/
theorem loop_while {c : W} {u : WS} {DD : DEnds} {E : PX} (I : Nat → DEnv → Store → Prop) {ρ : DEnv} {S : Store} (m0 : Nat) (h0 : I m0 ρ S)
    (ht : ∀ (n : Nat) (ρ : DEnv) (S : Store) (N : DEnv → Store → Prop), I n ρ S → (∀ m ρ2 S2, m < n → I m ρ2 S2 → N ρ2 S2) → c ρ S (fun d S1 => ∃ k, d = .bl k ∧ if k = true then u ρ S1 ⟨N, DD.rt⟩ E else DD.nx ρ S1) E) : wsWhile c u ρ S DD E := by
  have key : ∀ k n ρ S, n < k → I n ρ S → whileN k c u ρ S DD E := by
    intro k
    induction k with
    | zero => intro n ρ S h; omega
    | succ k ih =>
      intro n ρ S h hI
      exact ht n ρ S _ hI fun m ρ2 S2 hm h2 => ih m ρ2 S2 (by omega) h2
  exact ⟨m0 + 1, key _ _ _ _ (Nat.lt_succ_self _) h0⟩
/-! ### the height that has room -/
def szI (w : Int) (l : Nat) : Int := 2 ^ l * w
def fstI (w : Int) (l : Nat) (p : Int) : Int := p / szI w l * szI w l
def heldI (ps : List Pl) (w : Int) (p : Int) (l : Nat) : Nat := (things ((ps.take (fstI w l p + szI w l).toNat).drop (fstI w l p).toNat)).length
def roomAt (ps : List Pl) (w s p : Int) (l : Nat) : Bool := decide ((heldI ps w p l : Int) < 2 ^ l * (w - s * l))
def lowN (ps : List Pl) (w s p : Int) (h : Nat) : Nat := ((List.range h).find? (roomAt ps w s p)).getD h
def sp_height_for : SPf
  | [.tup [.int _, .int w, .int s], .int h, .ref n, .int key], S, Q, _ => ∃ ps, S[n]? = some (shp ps) ∧ ps.length ≤ 100000 ∧ (0 ≤ h ∧ h ≤ 10 ∧ 1 ≤ w ∧ w ≤ 1000) ∧ Q (.int (lowN ps w s (seatN ps key ps.length) h.toNat)) S
  | _, _, _, _ => False
theorem len_height_for : ∀ ds S Q E, sp_height_for ds S Q E → ds.length = 4 := by
  intro ds S Q E h; unfold sp_height_for at h; split at h <;> first | rfl | exact h.elim
abbrev n_height_for : List Str := ["bounds", "height", "shelf", "key", "seat", "low", "first", "behind"]
def w_height_for : WS :=
  wsSeq (wsSet 4 (wCall sp_seat_of [wVar 2, wVar 3] [])) (wsSeq (wsForR1 (tN 5) (wVar 1) (wsSeq (wsAsg (tT [6, 7]) (wCall sp_stretch_of [wVar 0, wVar 5, wVar 4] [])) (wsIf (wOp pLt (wCall sp_held [wVar 2, wVar 6, wVar 7] []) (wCall sp_cap_of [wVar 0, wVar 5] [])) (wsRet (wVar 5)) (wsNil)))) (wsRet (wVar 1)))

theorem szI_pos {w : Int} {l : Nat} (hl : l ≤ 10) (h1 : 1 ≤ w) (h2 : w ≤ 1000) : 1 ≤ szI w l ∧ szI w l ≤ 1024000 := size_le hl h1 h2
theorem fstI_nonneg {w p : Int} {l : Nat} (hl : l ≤ 10) (h1 : 1 ≤ w) (h2 : w ≤ 1000) (hp : 0 ≤ p) : 0 ≤ fstI w l p := by
  have := szI_pos hl h1 h2
  exact Int.mul_nonneg (Int.ediv_nonneg hp (by omega)) (by omega)
theorem lowN_some {ps : List Pl} {w s p : Int} {h i : Nat} (hi : i < h) (hr : roomAt ps w s p i = true) (hno : ∀ j, j < i → roomAt ps w s p j = false) : lowN ps w s p h = i := by
  have : (List.range h).find? (roomAt ps w s p) = some i := by
    rw [List.find?_range_eq_some]
    exact ⟨hr, by simpa using hi, fun j hj => by simp [hno j hj]⟩
  simp [lowN, this]
theorem lowN_none {ps : List Pl} {w s p : Int} {h : Nat} (hno : ∀ j, j < h → roomAt ps w s p j = false) : lowN ps w s p h = h := by
  have : (List.range h).find? (roomAt ps w s p) = none := by
    rw [List.find?_eq_none]
    intro j hj
    simp at hj
    simp [hno j hj]
  simp [lowN, this]
theorem lowN_some' {ps : List Pl} {w s p : Int} {h i : Nat} (hi : i ≤ h) (hr : roomAt ps w s p i = true) (hno : ∀ j, j < i → roomAt ps w s p j = false) (hh : roomAt ps w s p h = true) : lowN ps w s p h = i := by
  rcases Nat.lt_or_ge i h with h2 | h2
  · exact lowN_some h2 hr hno
  · have : i = h := by omega
    subst this
    exact lowN_none hno
theorem ob_height_for : Ob n_height_for sp_height_for w_height_for := by
  intro ds S Q E hS hd h
  unfold sp_height_for at h
  split at h
  · rename_i t w s h1 n key
    obtain ⟨ps, hn, hl, ⟨h2, h3, h4, h5⟩, hq⟩ := h
    simp [w_height_for, startD, hn, sp_seat_of]
    refine ⟨ps, rfl, hl, by omega, by omega, ?_⟩
    generalize hseat : seatN ps key ps.length = seat at *
    refine loop_range (fun i ρ S' => S' = S ∧ (∃ x y z, ρ = [some (bnd t w s), some (.int h1), some (.ref n), some (.int key), some (.int seat), x, y, z]) ∧ ∀ j, j < i → roomAt ps w s seat j = false) ⟨rfl, ⟨none, none, none, rfl⟩, fun _ h => absurd h (by omega)⟩ ?_ ?_
    · rintro i ρ S' N hi ⟨rfl, ⟨x, y, z, rfl⟩, hno⟩ hN
      have hz := szI_pos (w := w) (l := i) (by omega) h4 h5
      have hf := fstI_nonneg (p := seat) (l := i) (by omega) h4 h5 (by omega)
      simp [sp_stretch_of, sp_held, sp_cap_of, setAll, hn]
      refine ⟨by omega, ps, rfl, ⟨hf, by show 0 ≤ fstI w i seat + szI w i; omega⟩, by omega, ?_⟩
      show (_ ≤ (heldI ps w seat i : Int) ∧ _) ∨ ((heldI ps w seat i : Int) < _ ∧ _)
      by_cases hr : (heldI ps w seat i : Int) < 2 ^ i * (w - s * i)
      · refine .inr ⟨hr, ret_same ?_⟩
        rw [lowN_some (i := i) (by omega) (by simpa [roomAt] using hr) hno] at hq
        exact hq
      · refine .inl ⟨by omega, hN _ _ ⟨rfl, ⟨_, _, _, rfl⟩, fun j hj => ?_⟩⟩
        by_cases hji : j = i
        · subst hji; simpa [roomAt] using hr
        · exact hno j (by omega)
    · rintro ρ S' ⟨rfl, ⟨x, y, z, rfl⟩, hno⟩
      simp
      rw [lowN_none hno] at hq
      rw [Int.toNat_of_nonneg h2] at hq
      exact ret_same hq
  · exact h.elim
theorem seatN_lt (ps : List Pl) (key : Int) : ∀ n, 0 < n → seatN ps key n < n
  | 0, h => by omega
  | n + 1, _ => by
    unfold seatN
    split
    · omega
    · rcases Nat.eq_zero_or_pos n with h | h
      · subst h; simp [seatN]
      · have := seatN_lt ps key n h; omega
/-! ### more rules -/
theorem hu_of {k : Nat} {A : Around} (r : Room k A) : A.units + 65 < cLine := by have := r.un; omega
theorem rds_intsM {K : PySem.W.Frag} {φ : List Addr} {H : Hp} : ∀ {ns : List Int} {vs : List V}, RDs K φ H (ns.map D.int) vs → vs = ns.map V.int
  | [], vs, h => by simpa [RDs] using h
  | n :: ns, vs, h => by
    obtain ⟨v, r, rfl, h1, h2⟩ := h.inv
    rw [rds_intsM h2, h1.int_inv]; rfl
def bSum : BPf
  | [.ref n] => fun _ S Q _ => ∃ ns : List Int, S[n]? = some (.lst (ns.map .int)) ∧ Q (.int ns.sum) S
  | _ => fail
section
variable {K : PySem.W.Frag} {mg : Str → Option Value} {WW : WX}
theorem pb_sum : PrB K mg WW bSum (rSum K) := by
  intro φ ρ S σ H Q ds vs r h
  unfold bSum at h
  split at h
  · obtain ⟨v, rfl, q0⟩ := r.one
    obtain ⟨rs, re, Q', E', ⟨ns, h1, hq⟩, hn, hx⟩ := h
    obtain ⟨a1, v1, rfl, _, e1, q1, _⟩ := rs.lst h1 q0
    rw [rds_intsM q1] at e1
    exact ⟨a1, ns, rfl, SqL.of e1, hn _ _ hq _ _ _ Ext.refl rs RD.int⟩
  · exact h.no.elim
/-- l.index(x) -/
def mIndex : D → List D → W
  | .ref n, [d] => fun _ S Q _ => ∃ ps p j z, DPy S (.ref n) (.list ps) ∧ DPy S d p ∧ SeqAt.shaped (.list ps) = true ∧ SeqAt.shaped p = true ∧ ps[j]? = some z ∧ PyData.eqv z p = true ∧
      (∀ (m : Nat) (z' : PyData), m < j → ps[m]? = some z' → PyData.eqv z' p = false) ∧ Q (.int (j : Nat)) S
  | _, _ => fail
theorem pm_index : PrM K mg WW mIndex (rIndexD K) := by
  intro φ ρ S σ H Q d ds x vs r1 r2 h
  unfold mIndex at h
  split at h
  · obtain ⟨v, rfl, r⟩ := r2.one
    obtain ⟨rs, re, Q', E', ⟨ps, p, j, z, d1, d2, s1, s2, hz, hzj, hno, hq⟩, hn, hx⟩ := h
    have dp1 := d1.dp rs r1
    cases d1 with
    | lst h1 h2 =>
      obtain ⟨a1, v1, rfl, ha, e1, q1, _⟩ := rs.lst h1 r1
      exact ⟨a1, v, p, ps, j, z, rfl, rfl, dp1, d2.dp rs r, s1, s2, hz, hzj, hno, hn _ _ hq _ _ _ Ext.refl rs RD.int⟩
  · exact h.no.elim
end
section
variable {X : Cx} {WW : WX} {e o : Expr} {es : List Expr} {apos cpos : Pos} {wo wa : W} {ws : List W}
theorem se_index (hu : X.A.units + 65 < cLine) (ho : PE X o (tm X.K X.mg WW wo)) (ha : PE X e (tm X.K X.mg WW wa)) (hbase : attributeBase o "index" X.env (eval o X.env) = eval o X.env := by rfl)
    (hs0 : starEach [e] X.env = (false, eval e X.env) :: starEach [] X.env := by rfl)
    (hfew : ((backTo cpos (starEach [e] X.env)).all (fun x => !x.1) && (backToKw cpos (keywordEach [] X.env)).all (fun x => x.1.isSome) && decide (([e] : List Expr).length + ([] : List Keyword).length + (if ([] : List Keyword).isEmpty then 0 else 1) < 30)) = true := by rfl)
    (hline : (apos.endLine == cpos.line) = true := by rfl) (hplain : (backTo cpos (starEach [] X.env)).any (·.1) = false := by rfl) : PE X (.Call (.Attribute o "index" apos) [e] [] cpos) (tm X.K X.mg WW (wM "list" mIndex wo [wa])) :=
  PE.conv (pe_bm PySem.F.plainAttrs_list PySem.F.slot_list_index PySem.F.type_list_index (mt_indexD hu) ho (sa_cons ha sa_nil hs0) hbase hfew hline hs0 hplain) (wM_go pm_index)
end
/-! range(i, j, c) in a comprehension -/
def rangeC (lo c : Int) (n : Nat) : List D := (List.range n).map fun k => .int (lo + (k : Nat) * c)
theorem rangeC_length (lo c : Int) (n : Nat) : (rangeC lo c n).length = n := by simp [rangeC]
theorem rangeC_get {lo c : Int} {n i : Nat} (h : i < n) : (rangeC lo c n)[i]? = some (.int (lo + (i : Nat) * c)) := by simp [rangeC, h]
def wCompR3 (vs : List Nat) (b : Tg) (w u t c e : W) : W := fun ρ S Q E => w ρ S (fun d S1 => u ρ S1 (fun d2 S2 => t ρ S2 (fun d3 S3 => ∃ (i j k : Int) (n : Nat), d = .int i ∧ d2 = .int j ∧ d3 = .int k ∧ RgC i j k n ∧ n ≤ 100000 ∧
  compG (fun _ => True) b c e (rangeC i k n) [] (wipeD ρ vs) S3 Q) E) E) E
theorem rgC_pos {len c : Int} (h0 : 0 ≤ len) (h1 : len ≤ 100000000) (h2 : 1 ≤ c) (h3 : c ≤ 100000000) : RgC 0 len c ((len + c - 1) / c).toNat := by
  have hs := rangeSize_pos h2 h0
  have hn : 0 ≤ (len + c - 1) / c := Int.ediv_nonneg (by omega) (by omega)
  have hb : (len + c - 1) / c ≤ len + c - 1 := Int.ediv_le_self _ (by omega)
  refine ⟨by omega, by omega, ?_, by rw [hs]; omega⟩
  unfold Builtin.Range.small
  rw [hs]
  simp only [Builtin.Range.rangeFitsLong, Bool.and_eq_true, Bool.or_eq_true, decide_eq_true_eq, beq_iff_eq, show c > 0 by omega, if_true]
  omega
theorem lc_rangeC {lo k : Int} {n : Nat} {g : TG} {tt : TT} {te : TE} {vs : List Nat} {σ : L2.St} {H1 : Hp} {D : Addr} {Qd : Hp → Prop} (Pv : Nat → Hp → Prop) (h0 : Pv 0 (upd H1 D (.lst [])))
    (hs : ∀ i H, i < n → Pv i H → g (.int (lo + (i : Nat) * k)) (L2.wipe σ vs) H fun σ2 H2 => L2.wipe σ2 vs = L2.wipe σ vs ∧ tt σ2 H2 fun b H3 =>
      if b = true then te σ2 H3 fun y H4 => ∃ acc, H4 D = some (.lst acc) ∧ acc.length < sizeLine ∧ Pv (i + 1) (upd H4 D (.lst (acc ++ [y]))) else Pv (i + 1) H3) (hd : ∀ H, Pv n H → Qd H) :
    ∃ W : Nat → Nat → Hp → Prop, (∃ m, W 0 m (upd H1 D (.lst []))) ∧ ∀ i m H, W i m H →
      ((Itc lo k n).stop i H ∧ Qd H) ∨ ((Itc lo k n).go i H ∧ ∃ Nx : Hp → Prop, (∀ H', Nx H' → ∃ m', m' < m ∧ W (i + 1) m' H') ∧ ∀ x H', (Itc lo k n).yld i H x H' → g x (L2.wipe σ vs) H' fun σ2 H2 => L2.wipe σ2 vs = L2.wipe σ vs ∧ tt σ2 H2 fun b H3 =>
        if b = true then te σ2 H3 fun y H4 => ∃ acc, H4 D = some (.lst acc) ∧ acc.length < sizeLine ∧ Nx (upd H4 D (.lst (acc ++ [y]))) else Nx H3) := by
  refine ⟨fun i m H => m = n - i ∧ i ≤ n ∧ Pv i H, ⟨n, by simp, Nat.zero_le _, h0⟩, ?_⟩
  rintro i m H ⟨rfl, hi, p⟩
  by_cases hlt : i < n
  · refine .inr ⟨hlt, Pv (i + 1), fun H' p' => ⟨n - (i + 1), by omega, rfl, hlt, p'⟩, fun x H' y => ?_⟩
    obtain ⟨e, y⟩ := y
    subst e y
    exact hs i _ hlt p
  · have e : i = n := by omega
    subst e
    exact .inl ⟨Nat.le_refl _, hd H p⟩
section
variable {X : Cx} {WW : WX} {vs : List Nat} {w wu wt c ee : W}
theorem lc_goR3 {g : TG} {b : Tg} (ho : ∀ φ ρ σ0 H d v (k : DEnv → Prop) (Q : L2.St → Hp → Prop), RE X.K φ H ρ (L2.wipe σ0 vs) → RD X.K φ H d v → b d ρ k → (∀ ρ' σ', k ρ' → RE X.K φ H ρ' σ' → L2.wipe σ' vs = L2.wipe σ0 vs → Q σ' H) → g v (L2.wipe σ0 vs) H Q)
    (σ : L2.St) (H : Hp) (Q : VK) (q : tm X.K X.mg WW (wCompR3 vs b w wu wt c ee) σ H Q) : tLc (iRng3 (tCons (tm X.K X.mg WW w) (tCons (tm X.K X.mg WW wu) (tCons (tm X.K X.mg WW wt) tNil)))) g (ttm X.K X.mg NoW c) (tm X.K X.mg NoW ee) vs σ H Q := by
  obtain ⟨φ, ρ, S, rs, re, Q', E', hw, hn, hx⟩ := q
  refine ⟨φ, ρ, S, rs, re, _, E', hw, fun d S1 h1 v φ1 H1 x1 rs1 rd1 => ?_, hx⟩
  refine ⟨φ1, ρ, S1, rs1, re.mono x1, _, E', h1, fun d2 S2 h2 v2 φ2 H2 x2 rs2 rd2 => ?_, fun c ρ2 S2 a u φ2 H2 σ2 x => hx c ρ2 S2 a u φ2 H2 σ2 (x1.trans x)⟩
  refine ⟨φ2, ρ, S2, rs2, (re.mono x1).mono x2, _, E', h2, fun d3 S3 ⟨i, j, k, n, e1, e2, e3, hz, hl, h3⟩ v3 φ3 H3 x3 rs3 rd3 => ?_, fun c ρ2 S2 a u φ2 H2 σ2 x => hx c ρ2 S2 a u φ2 H2 σ2 ((x1.trans x2).trans x)⟩
  subst e1 e2 e3
  rw [rd1.int_inv, rd2.int_inv, rd3.int_inv]
  refine ⟨i, j, k, n, rfl, hz, ?_⟩
  intro DD hD
  refine lc_rangeC (fun t H' => PN X.K φ3 H3 DD X.mg (rangeC i k n) (fun _ => True) b c ee (wipeD ρ vs) Q' t H') (pn_start rs3 hD (by rw [rangeC_length]; exact Nat.le_trans hl (by decide)) h3) ?_ ?_
  · intro t H' hi p
    exact pn_turn (σ := σ) hD ho p (rangeC_get hi) ((((re.mono x1).mono x2).mono x3).wipe vs) (fun φ4 S4 x4 rs4 hs4 => RD.int) (fun _ _ _ q => q) (fun _ _ _ q => q)
  · intro H' p
    exact pn_end hD p (Nat.le_of_eq (rangeC_length i k n)) fun d S3 a v φ4 H4 x => hn d S3 a v φ4 H4 (((x1.trans x2).trans x3).trans x)
end
section
variable {X : Cx} {WW : WX} {vs : List Nat} {w wu wt ce ee : W} {elt tg a e2 e3 : Expr} {ifs : List Expr} {scope : Scope} {own : List (Str × Nat)} {pos : Pos}
theorem se_lcR3 {b : Tg} {g : TG} {p p3 : Pos} (hc : X.calm = true) (hN : X.N.Nodup) (hgl : Gl X "range") (hm : X.mg "range" = none) (hi : PE X a (tm X.K X.mg WW w)) (hi2 : PE X e2 (tm X.K X.mg WW wu)) (hi3 : PE X e3 (tm X.K X.mg WW wt)) (ok : BlkOk X.N X.env.scope scope own) (hv : own.map (·.2) = vs) (hg : Blk X scope fun Y => PG Y tg g)
    (ho : ∀ φ ρ σ0 H d v (k : DEnv → Prop) (Q : L2.St → Hp → Prop), RE X.K φ H ρ (L2.wipe σ0 vs) → RD X.K φ H d v → b d ρ k → (∀ ρ' σ', k ρ' → RE X.K φ H ρ' σ' → L2.wipe σ' vs = L2.wipe σ0 vs → Q σ' H) → g v (L2.wipe σ0 vs) H Q)
    (ht : Blk X scope fun Y => PTs Y ifs (ttm X.K X.mg NoW ce)) (he : Blk X scope fun Y => PE Y elt (tm X.K X.mg NoW ee))
    (hst : starEach [a, e2, e3] X.env = (false, eval a X.env) :: starEach [e2, e3] X.env := by rfl) (hst2 : starEach [e2, e3] X.env = (false, eval e2 X.env) :: starEach [e3] X.env := by rfl)
    (hst3 : starEach [e3] X.env = (false, eval e3 X.env) :: starEach [] X.env := by rfl) (hpl : (backTo p3 (starEach [e2, e3] X.env)).any (·.1) = false := by rfl)
    (hs : ∀ x, foldedSetIterable (.Call (.Name "range" p) [a, e2, e3] [] p3) X.env x = pure x := by intro _; rfl) :
    PE X (.ListComp elt [⟨tg, .Call (.Name "range" p) [a, e2, e3] [] p3, ifs, 0⟩] scope pos) (tm X.K X.mg WW (wCompR3 vs b w wu wt ce ee)) := by
  subst hv
  exact PE.conv (pe_lc hc hN (pi_range3 hgl hm (pa_cons hi (pa_cons hi2 (pa_cons hi3 pa_nil hst3) hst2) hst) hst hpl) ok hg ht he hs) fun σ H Q q => lc_goR3 ho σ H Q q
end
section
variable {ρ : DEnv} {S : Store} {Q : PQ} {E : PX} {i : Nat} {a b c e u : W} {d : D}
@[simp] theorem e_sumL : bSum [.ref i] ρ S Q E = ∃ ns : List Int, S[i]? = some (.lst (ns.map .int)) ∧ Q (.int ns.sum) S := rfl
@[simp] theorem e_compR3 {vs : List Nat} {t : Tg} : wCompR3 vs t a b u c e ρ S Q E = a ρ S (fun d S1 => b ρ S1 (fun d2 S2 => u ρ S2 (fun d3 S3 => ∃ (i j k : Int) (n : Nat), d = .int i ∧ d2 = .int j ∧ d3 = .int k ∧ RgC i j k n ∧ n ≤ 100000 ∧
  compG (fun _ => True) t c e (rangeC i k n) [] (wipeD ρ vs) S3 Q) E) E) E := rfl
end
def calmI (w s : Int) (l : Nat) : Int := 2 ^ l * (w - s * (l + 1))
def partHeld (ps : List Pl) (w : Int) (l k : Nat) : Nat := (things ((ps.take ((k : Int) * szI w l + szI w l).toNat).drop ((k : Int) * szI w l).toNat)).length
def exK (ps : List Pl) (w s : Int) (l k : Nat) : Int := if 0 < (partHeld ps w l k : Int) - calmI w s l then (partHeld ps w l k : Int) - calmI w s l else 0
def partsN (ps : List Pl) (w : Int) (l : Nat) : Nat := (((ps.length : Int) + szI w l - 1) / szI w l).toNat
def excessAt (ps : List Pl) (w s : Int) (l : Nat) : Int := ((List.range (partsN ps w l)).map (exK ps w s l)).sum
def excessI (ps : List Pl) (w s : Int) (h : Nat) : Int := ((List.range h).map (excessAt ps w s)).sum
def sp_excess_at : SPf
  | [.tup [.int _, .int w, .int s], .int l, .ref n], S, Q, _ => ∃ ps, S[n]? = some (shp ps) ∧ ps.length ≤ 90000 ∧ (0 ≤ l ∧ l ≤ 9 ∧ 1 ≤ w ∧ w ≤ 1000) ∧ Q (.int (excessAt ps w s l.toNat)) S
  | _, _, _, _ => False
def sp_excess_of : SPf
  | [.tup [.int _, .int w, .int s], .int h, .ref n], S, Q, _ => ∃ ps, S[n]? = some (shp ps) ∧ ps.length ≤ 90000 ∧ (0 ≤ h ∧ h ≤ 10 ∧ 1 ≤ w ∧ w ≤ 1000) ∧ Q (.int (excessI ps w s h.toNat)) S
  | _, _, _, _ => False
theorem len_excess_at : ∀ ds S Q E, sp_excess_at ds S Q E → ds.length = 3 := by
  intro ds S Q E h; unfold sp_excess_at at h; split at h <;> first | rfl | exact h.elim
theorem len_excess_of : ∀ ds S Q E, sp_excess_of ds S Q E → ds.length = 3 := by
  intro ds S Q E h; unfold sp_excess_of at h; split at h <;> first | rfl | exact h.elim
abbrev n_excess_at : List Str := ["bounds", "low", "shelf", "size", "calm", "first"]
def w_excess_at : WS :=
  wsSeq (wsSet 3 (wCall sp_places_of [wVar 0, wVar 1] [])) (wsSeq (wsSet 4 (wCall sp_calm_of [wVar 0, wVar 1] [])) (wsRet (wB bSum [wCompR3 [5] (tN 5) (ret (.int 0)) (wB bLen [wVar 2]) (wVar 3) (wYes) (wB bMax [ret (.int 0), wOp pSub (wCall sp_held [wVar 2, wVar 5, wOp pAdd (wVar 5) (wVar 3)] []) (wVar 4)])])))

abbrev n_excess_of : List Str := ["bounds", "height", "shelf", "low"]
def w_excess_of : WS :=
  wsRet (wB bSum [wCompR1 [3] (tN 3) (wVar 1) (wYes) (wCall sp_excess_at [wVar 0, wVar 3, wVar 2] [])])

theorem comp_rangeC {b : Tg} {e : W} {Q : PQ} {ρ : DEnv} {S : Store} {lo c : Int} {n : Nat} (f : Nat → D)
    (ht : ∀ i, i < n → ∀ N : D → Store → Prop, N (f i) S → b (.int (lo + (i : Nat) * c)) ρ fun ρ1 => e ρ1 S N NoE)
    (hq : Q (.ref S.length) (S ++ [.lst ((List.range n).map f)])) : compG (fun _ => True) b wYes e (rangeC lo c n) [] ρ S Q := by
  refine comp_inv (fun i acc S' => S' = S ∧ acc = ((List.range n).take i).map f) (rangeC lo c n) 0 [] S ⟨rfl, by simp⟩ (fun i acc S' h => trivial) ?_ ?_
  · rintro i x acc S' N hx ⟨rfl, rfl⟩ hN
    have hl : i < n := by
      have := (List.getElem?_eq_some_iff.mp hx).1
      rwa [rangeC_length] at this
    rw [rangeC_get hl] at hx
    cases hx
    have := ht i hl (fun y S2 => N ((((List.range n).take (0 + i)).map f) ++ [y]) S2) (hN _ _ ⟨rfl, by
      rw [show 0 + i + 1 = (0 + i) + 1 from rfl, List.take_add_one, List.map_append]
      simp only [Nat.zero_add]
      rw [List.getElem?_range hl]; rfl⟩)
    simpa using this
  · rintro acc S' ⟨rfl, rfl⟩
    rw [List.take_of_length_le (by simp [rangeC_length])]
    exact hq
theorem ob_excess_at : Ob n_excess_at sp_excess_at w_excess_at := by
  intro ds S Q E hS hd h
  unfold sp_excess_at at h
  split at h
  · rename_i t w s l n
    obtain ⟨ps, hn, hl, ⟨h2, h3, h4, h5⟩, hq⟩ := h
    have hz := szI_pos (w := w) (l := l.toNat) (by omega) h4 h5
    have hpl : 0 ≤ ((ps.length : Int) + szI w l.toNat - 1) / szI w l.toNat := Int.ediv_nonneg (by omega) (by omega)
    have hpl2 : ((ps.length : Int) + szI w l.toNat - 1) / szI w l.toNat ≤ ps.length := by
      rcases Nat.eq_zero_or_pos ps.length with h | h
      · rw [h, Int.ediv_eq_zero_of_lt (by omega) (by omega)]; omega
      · refine Int.ediv_le_of_le_mul (by omega) ?_
        have h := Int.mul_nonneg (show 0 ≤ (ps.length : Int) - 1 by omega) (show 0 ≤ szI w l.toNat - 1 by omega)
        rw [Int.sub_mul, Int.mul_sub] at h; omega
    simp [w_excess_at, startD, hn, sp_places_of, sp_calm_of]
    refine ⟨by omega, partsN ps w l.toNat, rgC_pos (by omega) (by omega) hz.1 (Int.le_trans hz.2 (by decide)), by unfold partsN; omega, ?_⟩
    refine comp_rangeC (fun k => .int (exK ps w s l.toNat k)) (fun k hk N hN => ?_) ?_
    · simp [sp_held, hn]
      have hk0 : 0 ≤ (k : Int) * szI w l.toNat := Int.mul_nonneg (by omega) (by omega)
      refine ⟨ps, rfl, ⟨hk0, by show 0 ≤ (k : Int) * szI w l.toNat + szI w l.toNat; omega⟩, ?_⟩
      have : exK ps w s l.toNat k = if calmI w s l.toNat < (partHeld ps w l.toNat k : Int) then (partHeld ps w l.toNat k : Int) - calmI w s l.toNat else 0 := by
        unfold exK
        by_cases hc : calmI w s l.toNat < (partHeld ps w l.toNat k : Int)
        · rw [if_pos hc, if_pos (by omega)]
        · rw [if_neg hc, if_neg (by omega)]
      rw [this] at hN
      unfold calmI at hN
      rw [Int.toNat_of_nonneg h2] at hN
      exact hN
    · simp
      refine ⟨(List.range (partsN ps w l.toNat)).map (exK ps w s l.toNat), by simp, ret_pure hS (by simp only [Cl]) hq⟩
  · exact h.elim
theorem ob_excess_of : Ob n_excess_of sp_excess_of w_excess_of := by
  intro ds S Q E hS hd h
  unfold sp_excess_of at h
  split at h
  · rename_i t w s h1 n
    obtain ⟨ps, hn, hl, ⟨h2, h3, h4, h5⟩, hq⟩ := h
    simp [w_excess_of, startD, hn]
    refine ⟨by omega, by omega, comp_rangeY (fun k => .int (excessAt ps w s k)) (fun k hk N hN => ?_) ?_⟩
    · simp [sp_excess_at, hn]
      exact ⟨ps, rfl, hl, by omega, hN⟩
    · simp
      refine ⟨(List.range h1.toNat).map (excessAt ps w s), by simp, ret_pure hS (by simp only [Cl]) hq⟩
  · exact h.elim
/-! ### a thing that lies twice -/
def NoEq (ts : List Th) : Prop := ∀ i, i + 1 < ts.length → ts[i]? ≠ ts[i + 1]?
def Rises (ts : List Th) : Prop := ts.Pairwise fun a b => a.1 < b.1
instance (ts : List Th) : Decidable (Rises ts) := by unfold Rises; infer_instance
def Twice (ps : List Pl) (i : Nat) (t : Th) : Prop := ps[i]? = some (some t) ∧ (things (ps.take i)).getLast? = some t ∧ NoEq (things (ps.take i))
def Sec (ps : List Pl) : Option Nat → Prop
  | none => NoEq (things ps)
  | some i => ∃ t, Twice ps i t
def Mend (ps qs : List Pl) : Prop := (NoEq (things ps) ∧ qs = ps) ∨ ∃ i t, Twice ps i t ∧ qs = ps.set i none
theorem NoEq.nil : NoEq [] := fun i h => by simp at h
theorem NoEq.snoc {ts : List Th} {t : Th} (h : NoEq ts) (hl : ts.getLast? ≠ some t) : NoEq (ts ++ [t]) := by
  intro i hi
  simp at hi
  by_cases h2 : i + 1 < ts.length
  · rw [List.getElem?_append_left (by omega), List.getElem?_append_left h2]; exact h i h2
  · have e : i + 1 = ts.length := by omega
    rw [List.getElem?_append_left (by omega), List.getElem?_append_right (by omega), e]
    simp
    rw [List.getLast?_eq_getElem?, ← e] at hl
    simpa using hl
def sp_second_of : SPf
  | [.ref n], S, Q, _ => ∃ ps, S[n]? = some (shp ps) ∧ ps.length ≤ 100000 ∧ ∀ r, Sec ps r → Q (optI r) S
  | _, _, _, _ => False
def sp_mended : SPf
  | [.ref n], S, Q, _ => ∃ ps, S[n]? = some (shp ps) ∧ ps.length ≤ 100000 ∧ ∀ qs, Mend ps qs → Q (.ref S.length) (S ++ [shp qs])
  | _, _, _, _ => False
def sp_is_straight : SPf
  | [.ref n], S, Q, _ => ∃ ps, S[n]? = some (shp ps) ∧ ps.length ≤ 100000 ∧ Q (.bl (decide (Rises (things ps)))) S
  | _, _, _, _ => False
def sp_is_sound : SPf
  | [.ref n], S, Q, _ => ∃ ps, S[n]? = some (shp ps) ∧ ps.length ≤ 100000 ∧ ∀ qs, Mend ps qs → Q (.bl (decide (Rises (things qs)))) S
  | _, _, _, _ => False
theorem len_second_of : ∀ ds S Q E, sp_second_of ds S Q E → ds.length = 1 := by
  intro ds S Q E h; unfold sp_second_of at h; split at h <;> first | rfl | exact h.elim
theorem len_mended : ∀ ds S Q E, sp_mended ds S Q E → ds.length = 1 := by
  intro ds S Q E h; unfold sp_mended at h; split at h <;> first | rfl | exact h.elim
theorem len_is_straight : ∀ ds S Q E, sp_is_straight ds S Q E → ds.length = 1 := by
  intro ds S Q E h; unfold sp_is_straight at h; split at h <;> first | rfl | exact h.elim
theorem len_is_sound : ∀ ds S Q E, sp_is_sound ds S Q E → ds.length = 1 := by
  intro ds S Q E h; unfold sp_is_sound at h; split at h <;> first | rfl | exact h.elim
abbrev n_second_of : List Str := ["shelf", "last", "place"]
def w_second_of : WS :=
  wsSeq (wsSet 1 (wTup [])) (wsSeq (wsForR1 (tN 2) (wB bLen [wVar 0]) (wsIf (wOp pNe (wOp pIx (wVar 0) (wVar 2)) (wTup [])) (wsSeq (wsIf (wOp pEq (wOp pIx (wVar 0) (wVar 2)) (wVar 1)) (wsRet (wVar 2)) (wsNil)) (wsSet 1 (wOp pIx (wVar 0) (wVar 2)))) (wsNil))) (wsRet (ret .non)))

abbrev n_mended : List Str := ["shelf", "slab", "place"]
def w_mended : WS :=
  wsSeq (wsSet 1 (wB bList [wVar 0])) (wsSeq (wsSet 2 (wCall sp_second_of [wVar 0] [])) (wsSeq (wsIf (wOp1 pNotN (wVar 2)) (wsSub (wVar 1) (wVar 2) (wTup [])) (wsNil)) (wsRet (wVar 1))))

abbrev n_is_straight : List Str := ["shelf", "things", "thing", "k"]
def w_is_straight : WS :=
  wsSeq (wsSet 1 (wComp [2] (tN 2) (wVar 0) (wOp pNe (wVar 2) (wTup [])) (wVar 2))) (wsSeq (wsForR2 (tN 3) (ret (.int 1)) (wB bLen [wVar 1]) (wsIf (wOp pGe (wOp pIx (wOp pIx (wVar 1) (wOp pSub (wVar 3) (ret (.int 1)))) (ret (.int 0))) (wOp pIx (wOp pIx (wVar 1) (wVar 3)) (ret (.int 0)))) (wsRet (ret (.bl false))) (wsNil))) (wsRet (ret (.bl true))))

abbrev n_is_sound : List Str := ["shelf"]
def w_is_sound : WS :=
  wsRet (wCall sp_is_straight [wCall sp_mended [wVar 0] []] [])

theorem Mend.len {ps qs : List Pl} (h : Mend ps qs) : qs.length = ps.length := by
  rcases h with ⟨_, rfl⟩ | ⟨i, t, _, rfl⟩ <;> simp
theorem ob_second_of : Ob n_second_of sp_second_of w_second_of := by
  intro ds S Q E hS hd h
  unfold sp_second_of at h
  split at h
  · rename_i n
    obtain ⟨ps, hn, hl, hq⟩ := h
    simp [w_second_of, startD, hn]
    refine ⟨by omega, ?_⟩
    refine loop_range (fun i ρ S' => S' = S ∧ NoEq (things (ps.take i)) ∧ ∃ x, ρ = [some (.ref n), some (ePl.enc (things (ps.take i)).getLast?), x]) ⟨rfl, by simpa [things] using NoEq.nil, none, rfl⟩ ?_ ?_
    · rintro i ρ S' N hi ⟨rfl, hno, x, rfl⟩ hN
      have e := pl_at (ps := ps) (i := i) hi
      have tn := take_next hi
      simp [hn, e]
      cases e2 : ps[i] with
      | none =>
        rw [e2] at tn
        have tt : things (ps.take (i + 1)) = things (ps.take i) := by rw [tn, things_app, things_none]; simp
        simp
        exact hN _ _ ⟨rfl, by rw [tt]; exact hno, some (.int i), by rw [tt]⟩
      | some t =>
        rw [e2] at tn
        have tt : things (ps.take (i + 1)) = things (ps.take i) ++ [t] := by rw [tn, things_app, things_some]
        have step : (things (ps.take i)).getLast? ≠ some t → N [some (.ref n), some (.tup [.int t.1, .int t.2]), some (.int i)] S' := fun h =>
          hN _ _ ⟨rfl, by rw [tt]; exact hno.snoc h, some (.int i), by rw [tt]; simp⟩
        simp
        cases e3 : (things (ps.take i)).getLast? with
        | none => simp; refine ⟨_, hn, _, e, ?_⟩; rw [e2]; exact step (by rw [e3]; simp)
        | some u =>
          simp
          by_cases he : t = u
          · subst he
            simp
            exact ret_same (hq (some i) ⟨t, by rw [List.getElem?_eq_getElem hi, e2], e3, hno⟩)
          · have h1 : ¬ (t.1 = u.1 ∧ t.2 = u.2) := fun h => he (Prod.ext h.1 h.2)
            simp [h1]
            refine ⟨fun h2 h3 => h1 ⟨h2, h3⟩, _, hn, _, e, ?_⟩
            rw [e2]
            refine step ?_
            rw [e3]; simpa using fun h => he h.symm
    · rintro ρ S' ⟨rfl, hno, x, rfl⟩
      rw [List.take_of_length_le (Nat.le_refl _)] at hno
      simp
      exact ret_same (hq none hno)
  · exact h.elim
theorem ob_mended : Ob n_mended sp_mended w_mended := by
  intro ds S Q E hS hd h
  unfold sp_mended at h
  split at h
  · rename_i n
    obtain ⟨ps, hn, hl, hq⟩ := h
    simp [w_mended, startD, hn, sp_second_of, app_get hn]
    refine ⟨ps, rfl, hl, fun r hr => ?_⟩
    cases r with
    | none =>
      simp [optI, isNon]
      exact ret_any (hq _ (.inl ⟨hr, rfl⟩))
    | some i =>
      obtain ⟨t, ht⟩ := hr
      have hi := (List.getElem?_eq_some_iff.mp ht.1).1
      simp [optI, isNon]
      refine ⟨_, ixN_ok (by omega) (by omega), ret_any ?_⟩
      rw [show D.tup [] = ePl.enc none from rfl, map_set]
      exact hq _ (.inr ⟨i, t, ht, by simp⟩)
  · exact h.elim
theorem rises_of {ts : List Th} (h : ∀ i (hi : i + 1 < ts.length), ts[i].1 < ts[i + 1].1) : Rises ts := by
  unfold Rises
  rw [List.pairwise_iff_getElem]
  intro i j hi hj hij
  obtain ⟨k, rfl⟩ : ∃ k, j = i + 1 + k := ⟨j - i - 1, by omega⟩
  clear hij
  induction k with
  | zero => exact h i hj
  | succ k ih => exact Int.lt_trans (ih (by omega)) (h (i + 1 + k) hj)
theorem rises_at {ts : List Th} (h : Rises ts) (i : Nat) (hi : i + 1 < ts.length) : ts[i].1 < ts[i + 1].1 := List.pairwise_iff_getElem.mp h i (i + 1) (by omega) hi (by omega)
theorem things_le (ps : List Pl) : (things ps).length ≤ ps.length := List.length_filterMap_le _ _
theorem ob_is_straight : Ob n_is_straight sp_is_straight w_is_straight := by
  intro ds S Q E hS hd h
  unfold sp_is_straight at h
  split at h
  · rename_i n
    obtain ⟨ps, hn, hl, hq⟩ := h
    have htl := things_le ps
    simp [w_is_straight, startD, hn, atL, e_forR2]
    refine comp_full hn (by simp) ?_
    simp
    refine ⟨by omega, ?_⟩
    refine loop_range (fun i ρ S' => S' = S ++ [thp (things ps)] ∧ (∃ x, ρ = [some (.ref n), some (.ref S.length), none, x]) ∧ ∀ j, j < i → ∀ (hj : j + 1 < (things ps).length), (things ps)[j].1 < (things ps)[j + 1].1) ⟨rfl, ⟨none, rfl⟩, fun _ h => absurd h (by omega)⟩ ?_ ?_
    · rintro i ρ S' N hi ⟨rfl, ⟨x, rfl⟩, hno⟩ hN
      have e0 := th_at (ts := things ps) (i := i) (by omega)
      have e1 := th_at (ts := things ps) (i := i + 1) (by omega)
      have e2 : (1 : Int) + i = ((i + 1 : Nat) : Int) := by omega
      have e3 : ((i + 1 : Nat) : Int) - 1 = (i : Nat) := by omega
      simp only [e2]
      simp [-Int.natCast_add, e3, e0, e1, jx0]
      by_cases hlt : (things ps)[i].1 < (things ps)[i + 1].1
      · refine .inl ⟨hlt, hN _ _ ⟨rfl, ⟨_, rfl⟩, fun j hj hj2 => ?_⟩⟩
        by_cases hji : j = i
        · subst hji; exact hlt
        · exact hno j (by omega) hj2
      · refine .inr ⟨by omega, ?_⟩
        have : ¬ Rises (things ps) := fun h => hlt (rises_at h i (by omega))
        rw [decide_eq_false this] at hq
        exact ret_pure hS (by simp only [Cl]) hq
    · rintro ρ S' ⟨rfl, ⟨x, rfl⟩, hno⟩
      have : Rises (things ps) := rises_of fun i hi => hno i (by omega) hi
      rw [decide_eq_true this] at hq
      simp
      exact ret_pure hS (by simp only [Cl]) hq
  · exact h.elim
theorem ob_is_sound : Ob n_is_sound sp_is_sound w_is_sound := by
  intro ds S Q E hS hd h
  unfold sp_is_sound at h
  split at h
  · rename_i n
    obtain ⟨ps, hn, hl, hq⟩ := h
    simp [w_is_sound, startD, sp_mended, hn]
    refine ⟨ps, rfl, hl, fun qs hm => ?_⟩
    simp [sp_is_straight]
    exact ⟨qs, rfl, by rw [hm.len]; exact hl, ret_pure hS (by simp only [Cl]) (hq qs hm)⟩
  · exact h.elim
/-! ### things moved one by one -/
abbrev Cs := List (Nat × Th)
def Srt (cs : Cs) : Prop := cs.Pairwise fun a b => a.1 < b.1
structure OnF (k : Nat) (cs : Cs) (s : List Pl) : Prop where
  at' : ∀ c ∈ cs, k ≤ c.1 ∧ s[c.1 - k]? = some (some c.2)
  no : ∀ x, x < s.length → (∀ c ∈ cs, c.1 ≠ k + x) → s[x]? = some none
  srt : Srt cs
theorem OnF.things : ∀ {s : List Pl} {k : Nat} {cs : Cs}, OnF k cs s → things s = cs.map (·.2)
  | [], k, cs, h => by
    cases cs with
    | nil => rfl
    | cons c cs => have := (h.at' c (by simp)).2; simp at this
  | none :: s, k, cs, h => by
    have ih := OnF.things (s := s) (k := k + 1) (cs := cs) ⟨fun c hc => by
      obtain ⟨h1, h2⟩ := h.at' c hc
      have : c.1 ≠ k := fun e => by rw [e, Nat.sub_self] at h2; simp at h2
      refine ⟨by omega, ?_⟩
      rw [show c.1 - k = (c.1 - (k + 1)) + 1 by omega] at h2
      simpa using h2, fun x hx hc => by
      have := h.no (x + 1) (by simp; omega) (fun c hc' => by have := hc c hc'; omega)
      simpa using this, h.srt⟩
    rw [← ih]; rfl
  | some t :: s, k, cs, h => by
    cases cs with
    | nil => have := h.no 0 (by simp) (fun c hc => by simp at hc); simp at this
    | cons c cs =>
      obtain ⟨hc1, hc2⟩ := h.at' c (by simp)
      have hs := List.pairwise_cons.mp h.srt
      have hck : c.1 = k := by
        refine Classical.byContradiction fun hne => ?_
        have := h.no 0 (by simp) (fun d hd => by
          rcases List.mem_cons.mp hd with rfl | hd
          · omega
          · have := hs.1 d hd; omega)
        simp at this
      have hct : c.2 = t := by rw [hck, Nat.sub_self] at hc2; simpa using hc2.symm
      have ih := OnF.things (s := s) (k := k + 1) (cs := cs) ⟨fun d hd => by
        obtain ⟨h1, h2⟩ := h.at' d (by simp [hd])
        have := hs.1 d hd
        refine ⟨by omega, ?_⟩
        rw [show d.1 - k = (d.1 - (k + 1)) + 1 by omega] at h2
        simpa using h2, fun x hx hc => by
        have := h.no (x + 1) (by simp; omega) (fun d hd => by
          rcases List.mem_cons.mp hd with rfl | hd
          · omega
          · have := hc d hd; omega)
        simpa using this, hs.2⟩
      rw [List.map_cons, ← ih, hct]; rfl
abbrev On (cs : Cs) (s : List Pl) : Prop := OnF 0 cs s
theorem On.lt {cs : Cs} {s : List Pl} (h : On cs s) {c : Nat × Th} (hc : c ∈ cs) : c.1 < s.length := by
  have := (h.at' c hc).2
  simpa using (List.getElem?_eq_some_iff.mp this).1
theorem On.lay {cs cs' : Cs} {s : List Pl} {y : Nat} {t : Th} (h : On cs s) (hy : y < s.length) (hn : ∀ c ∈ cs, c.1 ≠ y) (hs : Srt cs') (hm : ∀ c, c ∈ cs' ↔ c ∈ cs ∨ c = (y, t)) : On cs' (s.set y (some t)) := by
  refine ⟨fun c hc => ⟨Nat.zero_le _, ?_⟩, fun x hx hc => ?_, hs⟩
  · rcases (hm c).mp hc with h1 | rfl
    · have := (h.at' c h1).2
      have hne := hn c h1
      rw [List.getElem?_set_ne (by simp; omega)]; exact this
    · simp [hy]
  · have h1 := hc (y, t) ((hm _).mpr (.inr rfl))
    rw [List.getElem?_set_ne (by simp at h1; omega)]
    exact h.no x (by simpa using hx) fun c h2 => hc c ((hm c).mpr (.inl h2))
theorem On.clear {cs cs' : Cs} {s : List Pl} {x : Nat} (h : On cs s) (hx : x < s.length) (hs : Srt cs') (hm : ∀ c, c ∈ cs' ↔ c ∈ cs ∧ c.1 ≠ x) : On cs' (s.set x none) := by
  refine ⟨fun c hc => ⟨Nat.zero_le _, ?_⟩, fun z hz hc => ?_, hs⟩
  · obtain ⟨h1, h2⟩ := (hm c).mp hc
    rw [List.getElem?_set_ne (by simp; omega)]; exact (h.at' c h1).2
  · by_cases hzx : z = x
    · subst hzx; simp [hx]
    · rw [List.getElem?_set_ne (by omega)]
      refine h.no z (by simpa using hz) fun c h2 h3 => ?_
      exact hc c ((hm c).mpr ⟨h2, by omega⟩) h3
/-- what the rows ask behind each write -/
def RowsOk (ts : List Th) (s : List Pl) : Prop := things s = ts ∨ ∃ l t r, ts = l ++ t :: r ∧ things s = l ++ t :: t :: r
def Safe (ts : List Th) : List Wr → List Pl → (List Pl → Prop) → Prop
  | [], s, F => F s
  | w :: ws, s, F => (w.2 ≠ none → s[w.1.toNat]? = some none) ∧ (0 ≤ w.1 ∧ w.1 < s.length) ∧ RowsOk ts (s.set w.1.toNat w.2) ∧ Safe ts ws (s.set w.1.toNat w.2) F
theorem Safe.app {ts : List Th} : ∀ {a b : List Wr} {s : List Pl} {F : List Pl → Prop}, Safe ts a s (fun s' => Safe ts b s' F) → Safe ts (a ++ b) s F
  | [], _, _, _, h => h
  | w :: a, b, s, F, h => ⟨h.1, h.2.1, h.2.2.1, Safe.app h.2.2.2⟩
theorem Srt.app {a b : Cs} : Srt (a ++ b) ↔ Srt a ∧ Srt b ∧ ∀ x ∈ a, ∀ y ∈ b, x.1 < y.1 := List.pairwise_append
theorem Srt.cons {c : Nat × Th} {b : Cs} : Srt (c :: b) ↔ (∀ y ∈ b, c.1 < y.1) ∧ Srt b := List.pairwise_cons
/-- one thing moved -/
theorem Safe.move {L R : Cs} {x y : Nat} {t : Th} {s : List Pl} {F : List Pl → Prop} {ws : List Wr} (h : On (L ++ (x, t) :: R) s) (hs : Srt (L ++ (y, t) :: R)) (hy : y < s.length) (hxy : x ≠ y)
    (k : ∀ s', On (L ++ (y, t) :: R) s' → s'.length = s.length → Safe (L.map (·.2) ++ t :: R.map (·.2)) ws s' F) : Safe (L.map (·.2) ++ t :: R.map (·.2)) (((y : Int), some t) :: ((x : Int), none) :: ws) s F := by
  have hx := h.lt (c := (x, t)) (by simp)
  obtain ⟨a1, a2, a3⟩ := Srt.app.mp h.srt
  obtain ⟨b1, b2, b3⟩ := Srt.app.mp hs
  obtain ⟨a4, a5⟩ := Srt.cons.mp a2
  obtain ⟨b4, b5⟩ := Srt.cons.mp b2
  have hny : ∀ c ∈ L ++ (x, t) :: R, c.1 ≠ y := fun c hc => by
    rcases List.mem_append.mp hc with hc | hc
    · have := b3 c hc (y, t) (by simp); simp at this; omega
    · rcases List.mem_cons.mp hc with rfl | hc
      · exact hxy
      · have := b4 c hc; simp at this; omega
  have hLx : ∀ c ∈ L, c.1 ≠ x := fun c hc => by have := a3 c hc (x, t) (by simp); simp at this; omega
  have hRx : ∀ c ∈ R, c.1 ≠ x := fun c hc => by have := a4 c hc; simp at this; omega
  -- both
  have both : ∃ cs' : Cs, On cs' (s.set y (some t)) ∧ cs'.map (·.2) = L.map (·.2) ++ t :: t :: R.map (·.2) ∧ ∀ c, c ∈ cs' ↔ c ∈ L ++ (x, t) :: R ∨ c = (y, t) := by
    rcases Nat.lt_or_ge x y with hlt | hge
    · refine ⟨L ++ (x, t) :: (y, t) :: R, ?_, by simp, ?_⟩
      · refine h.lay hy hny (Srt.app.mpr ⟨a1, Srt.cons.mpr ⟨fun c hc => ?_, b2⟩, fun c hc d hd => ?_⟩) ?_
        · rcases List.mem_cons.mp hc with rfl | hc
          · exact hlt
          · exact a4 c hc
        · rcases List.mem_cons.mp hd with rfl | hd
          · exact a3 c hc _ (by simp)
          · exact b3 c hc d hd
        · intro c; simp only [List.mem_append, List.mem_cons, or_assoc, or_left_comm, or_comm]
      · intro c; simp only [List.mem_append, List.mem_cons, or_assoc, or_left_comm, or_comm]
    · refine ⟨L ++ (y, t) :: (x, t) :: R, ?_, by simp, ?_⟩
      · refine h.lay hy hny (Srt.app.mpr ⟨a1, Srt.cons.mpr ⟨fun c hc => ?_, a2⟩, fun c hc d hd => ?_⟩) ?_
        · rcases List.mem_cons.mp hc with rfl | hc
          · show y < x; omega
          · exact b4 c hc
        · rcases List.mem_cons.mp hd with rfl | hd
          · exact b3 c hc _ (by simp)
          · exact a3 c hc d hd
        · intro c; simp only [List.mem_append, List.mem_cons, or_assoc, or_left_comm, or_comm]
      · intro c; simp only [List.mem_append, List.mem_cons, or_assoc, or_left_comm, or_comm]
  obtain ⟨cs', o1, e1, m1⟩ := both
  have o2 : On (L ++ (y, t) :: R) ((s.set y (some t)).set x none) := o1.clear (by simpa using hx) hs fun c => by
    rw [m1]
    simp only [List.mem_append, List.mem_cons]
    constructor
    · rintro (h | h | h)
      · exact ⟨.inl (.inl h), hLx c h⟩
      · exact ⟨.inr h, by rw [h]; exact fun e => hxy e.symm⟩
      · exact ⟨.inl (.inr (.inr h)), hRx c h⟩
    · rintro ⟨(h | h | h) | h, h2⟩
      · exact .inl h
      · exact absurd (by rw [h]) h2
      · exact .inr (.inr h)
      · exact .inr (.inl h)
  refine ⟨fun _ => ?_, ⟨by simp, by simpa using hy⟩, .inr ⟨L.map (·.2), t, R.map (·.2), rfl, ?_⟩, fun hc => absurd rfl hc, ⟨by simp, by simpa using hx⟩, .inl ?_, ?_⟩
  · simp only [Int.toNat_natCast]
    exact h.no y hy fun c hc => by simpa using hny c hc
  · simp only [Int.toNat_natCast]; rw [o1.things, e1]
  · simp only [Int.toNat_natCast]; rw [o2.things]; simp
  · simp only [Int.toNat_natCast]; exact k _ o2 (by simp)
/-- place, aim, thing -/
abbrev Tr := Nat × Nat × Th
def trP (T : List Tr) : Cs := T.map fun x => (x.1, x.2.2)
def trA (T : List Tr) : Cs := T.map fun x => (x.2.1, x.2.2)
def trM (T : List Tr) : Cs := T.map fun x => (max x.1 x.2.1, x.2.2)
def trT (T : List Tr) : List Th := T.map fun x => x.2.2
def trW (x : Tr) : List Wr := [((x.2.1 : Int), some x.2.2), ((x.1 : Int), none)]
def onw (x : Tr) : Bool := decide (x.1 < x.2.1)
def bkw (x : Tr) : Bool := decide (x.2.1 < x.1)
theorem phase1 {ts : List Th} {ws : List Wr} {F : List Pl → Prop} : ∀ (U : List Tr) (R : Cs) (s : List Pl), On (trP U.reverse ++ R) s → Srt (trM U.reverse ++ R) → (∀ x ∈ U, x.2.1 < s.length) → ts = trT U.reverse ++ R.map (·.2) →
    (∀ s', On (trM U.reverse ++ R) s' → s'.length = s.length → Safe ts ws s' F) → Safe ts ((U.filter onw).flatMap trW ++ ws) s F
  | [], R, s, h, hs, hb, ht, k => k s (by simpa [trM, trP] using h) rfl
  | x :: U, R, s, h, hs, hb, ht, k => by
    obtain ⟨p, a, t⟩ := x
    have e1 : trP (((p, a, t) : Tr) :: U).reverse ++ R = trP U.reverse ++ (p, t) :: R := by simp [trP]
    have e2 : trM (((p, a, t) : Tr) :: U).reverse ++ R = trM U.reverse ++ (max p a, t) :: R := by simp [trM]
    have e3 : trT (((p, a, t) : Tr) :: U).reverse ++ R.map (·.2) = trT U.reverse ++ t :: R.map (·.2) := by simp [trT]
    rw [e1] at h
    rw [e2] at hs k
    rw [e3] at ht
    have ha := hb (p, a, t) (by simp)
    have hb' : ∀ x ∈ U, x.2.1 < s.length := fun x hx => hb x (by simp [hx])
    by_cases hpa : p < a
    · have hm : max p a = a := Nat.max_eq_right (by omega)
      rw [hm] at hs k
      have hf : (((p, a, t) : Tr) :: U).filter onw = (p, a, t) :: U.filter onw := by simp [onw, hpa]
      rw [hf]
      have hts : ts = (trP U.reverse).map (·.2) ++ t :: R.map (·.2) := by rw [ht]; simp [trP, trT]
      obtain ⟨a1, a2, a3⟩ := Srt.app.mp h.srt
      obtain ⟨b1, b2, b3⟩ := Srt.app.mp hs
      obtain ⟨b4, b5⟩ := Srt.cons.mp b2
      have hsrt : Srt (trP U.reverse ++ (a, t) :: R) := Srt.app.mpr ⟨a1, b2, fun c hc d hd => by
        have := a3 c hc (p, t) (by simp)
        rcases List.mem_cons.mp hd with rfl | hd
        · simp at this ⊢; omega
        · have h2 := b4 d hd; simp at this h2; omega⟩
      show Safe ts (trW (p, a, t) ++ (U.filter onw).flatMap trW ++ ws) s F
      rw [hts]
      refine Safe.move h hsrt ha (show p ≠ a by omega) fun s' h' hl => ?_
      rw [← hts]
      exact phase1 U ((a, t) :: R) s' h' hs (fun x hx => by rw [hl]; exact hb' x hx) (by rw [ht]; rfl) fun s2 h2 hl2 => k s2 h2 (by rw [hl2, hl])
    · have hm : max p a = p := Nat.max_eq_left (by omega)
      rw [hm] at hs k
      have hf : (((p, a, t) : Tr) :: U).filter onw = U.filter onw := by simp [onw, hpa]
      rw [hf]
      exact phase1 U ((p, t) :: R) s h hs hb' (by rw [ht]; rfl) k
theorem phase2 {ts : List Th} {ws : List Wr} {F : List Pl → Prop} : ∀ (T : List Tr) (L : Cs) (s : List Pl), On (L ++ trM T) s → Srt (L ++ trA T) → (∀ x ∈ T, x.2.1 < s.length) → ts = L.map (·.2) ++ trT T →
    (∀ s', On (L ++ trA T) s' → s'.length = s.length → Safe ts ws s' F) → Safe ts ((T.filter bkw).flatMap trW ++ ws) s F
  | [], L, s, h, hs, hb, ht, k => k s (by simpa [trM, trA] using h) rfl
  | (p, a, t) :: T, L, s, h, hs, hb, ht, k => by
    have e1 : L ++ trM ((p, a, t) :: T) = L ++ (max p a, t) :: trM T := rfl
    have e2 : L ++ trA ((p, a, t) :: T) = L ++ (a, t) :: trA T := rfl
    rw [e1] at h
    rw [e2] at hs k
    have ht' : ts = L.map (·.2) ++ t :: trT T := ht
    have ha := hb (p, a, t) (by simp)
    have hb' : ∀ x ∈ T, x.2.1 < s.length := fun x hx => hb x (by simp [hx])
    have re : ∀ X : Cs, L ++ (a, t) :: X = (L ++ [(a, t)]) ++ X := fun X => by simp
    by_cases hpa : a < p
    · have hm : max p a = p := Nat.max_eq_left (by omega)
      rw [hm] at h
      have hf : ((p, a, t) :: T).filter bkw = (p, a, t) :: T.filter bkw := by simp [bkw, hpa]
      rw [hf]
      have hmm : (trM T).map (·.2) = trT T := by simp [trM, trT]
      have hts : ts = L.map (·.2) ++ t :: (trM T).map (·.2) := by rw [ht', hmm]
      obtain ⟨a1, a2, a3⟩ := Srt.app.mp h.srt
      obtain ⟨a4, a5⟩ := Srt.cons.mp a2
      obtain ⟨b1, b2, b3⟩ := Srt.app.mp hs
      have hsrt : Srt (L ++ (a, t) :: trM T) := Srt.app.mpr ⟨a1, Srt.cons.mpr ⟨fun d hd => by have := a4 d hd; simp at this ⊢; omega, a5⟩, fun c hc d hd => by
        rcases List.mem_cons.mp hd with rfl | hd
        · exact b3 c hc _ (by simp)
        · exact a3 c hc d (by simp [hd])⟩
      show Safe ts (trW (p, a, t) ++ (T.filter bkw).flatMap trW ++ ws) s F
      rw [hts]
      refine Safe.move h hsrt ha (show p ≠ a by omega) fun s' h' hl => ?_
      rw [← hts]
      rw [re] at h' hs k
      exact phase2 T (L ++ [(a, t)]) s' h' hs (fun x hx => by rw [hl]; exact hb' x hx) (by rw [ht']; simp) fun s2 h2 hl2 => k s2 h2 (by rw [hl2, hl])
    · have hf : ((p, a, t) :: T).filter bkw = T.filter bkw := by simp [bkw, hpa]
      rw [hf]
      rw [re] at hs k
      have hm : max p a = a := Nat.max_eq_right (by omega)
      rw [hm, re] at h
      exact phase2 T (L ++ [(a, t)]) s h hs hb' (by rw [ht']; simp) k
/-- all moves, in their order -/
def trWs (T : List Tr) : List Wr := (T.filter onw).reverse.flatMap trW ++ (T.filter bkw).flatMap trW
theorem srt_max {T : List Tr} (hp : Srt (trP T)) (ha : Srt (trA T)) : Srt (trM T) := by
  unfold Srt trP trA trM at *
  rw [List.pairwise_map] at *
  exact (hp.and ha).imp fun {x y} h => by have := h.1; have := h.2; simp only [] at *; omega
theorem moves_safe {T : List Tr} {s : List Pl} {ws : List Wr} {F : List Pl → Prop} (h : On (trP T) s) (ha : Srt (trA T)) (hb : ∀ x ∈ T, x.2.1 < s.length) (k : ∀ s', On (trA T) s' → s'.length = s.length → Safe (trT T) ws s' F) : Safe (trT T) (trWs T ++ ws) s F := by
  unfold trWs
  rw [List.append_assoc, ← List.filter_reverse]
  refine phase1 T.reverse [] s (by simpa using h) (by simpa using srt_max h.srt ha) (fun x hx => hb x (by simpa using hx)) (by simp) fun s' h' hl => ?_
  refine phase2 T [] s' (by simpa using h') (by simpa using ha) (fun x hx => by rw [hl]; exact hb x hx) (by simp) fun s2 h2 hl2 => ?_
  exact k s2 (by simpa using h2) (by rw [hl2, hl])
/-! list(range(n)) -/
def wLRange (w : W) : W := fun ρ S Q E => w ρ S (fun d S1 => ∃ n : Int, d = .int n ∧ -1000000 ≤ n ∧ n ≤ 1000000 ∧ Q (.ref S1.length) (S1 ++ [.lst (rangeD 0 n.toNat)])) E
theorem rds_rangeV {K : PySem.W.Frag} {φ : List Addr} {H : Hp} {n : Int} : RDs K φ H (rangeD 0 n.toNat) (rgV 0 n) := by
  have : ∀ l : List Nat, RDs K φ H (l.map fun k => D.int (0 + (k : Nat))) (l.map fun i => V.int (0 + (i : Nat))) := fun l => by
    induction l with
    | nil => exact RDs.nil
    | cons k l ih => exact RDs.cons RD.int ih
  unfold rangeD rgV
  rw [show (n - 0).toNat = n.toNat by omega]
  exact this _
section
variable {X : Cx} {WW : WX} {w : W} {a : Expr}
theorem se_lrange {p p2 pos pos2 : Pos} (hg : Gl X "list") (hm : X.mg "list" = none) (hg2 : Gl X "range") (hm2 : X.mg "range" = none) (ha : PE X a (tm X.K X.mg WW w)) (hc : X.calm = true := by rfl)
    (na : starEach [a] X.env = (false, eval a X.env) :: starEach [] X.env := by rfl)
    (na2 : starEach [.Call (.Name "range" p2) [a] [] pos2] X.env = (false, eval (.Call (.Name "range" p2) [a] [] pos2) X.env) :: starEach [] X.env := by rfl) :
    PE X (.Call (.Name "list" p) [.Call (.Name "range" p2) [a] [] pos2] [] pos) (tm X.K X.mg WW (wLRange w)) := by
  refine PE.conv (pe_listRg hc hg hm (prg_1 hg2 hm2 ha na) na2) fun σ H Q q => ?_
  obtain ⟨φ, ρ, S, rs, re, Q', E', hw, hn, hx⟩ := q
  refine ⟨φ, ρ, S, rs, re, _, E', hw, fun d S1 ⟨n, e1, h0, h1, h2⟩ v φ1 H1 x1 rs1 rd1 => ?_, hx⟩
  subst e1
  rw [rd1.int_inv]
  have hz4 : (2000000 : Nat) ≤ sizeLine := by decide
  refine ⟨n, rfl, ⟨by decide, by decide, by omega, by omega, by omega⟩, fun q hq => ?_⟩
  exact mk_list (Q' := Q') rs1 rds_rangeV (by rw [rangeD_length]; omega) (fun d S' a v φ' H' x => hn d S' a v φ' H' (x1.trans x)) h2 q hq
end
@[simp] theorem e_lrange {ρ : DEnv} {S : Store} {Q : PQ} {E : PX} {w : W} : wLRange w ρ S Q E = w ρ S (fun d S1 => ∃ n : Int, d = .int n ∧ -1000000 ≤ n ∧ n ≤ 1000000 ∧ Q (.ref S1.length) (S1 ++ [.lst (rangeD 0 n.toNat)])) E := rfl
/-! ### places, moves, writes -/
def fullAt (ps : List Pl) (i : Nat) : Bool := match ps[i]? with
  | some (some _) => true
  | _ => false
def fullN (ps : List Pl) : List Nat := (List.range ps.length).filter (fullAt ps)
def fullL (ps : List Pl) : List Int := (fullN ps).map fun i : Nat => (i : Int)
abbrev Mv := Int × Int
abbrev mvp (mv : List Mv) : Cell := .lst (mv.map eMv.enc)
def movesF (prs : List Mv) : List Mv := (prs.filter fun x => decide (x.1 < x.2)).reverse ++ prs.filter fun x => decide (x.2 < x.1)
def plAt (ps : List Pl) (i : Nat) : Pl := ps.getD i none
def wrsOf (ps : List Pl) (mv : List Mv) : List Wr := mv.flatMap fun x => [(x.2, plAt ps x.1.toNat), (x.1, none)]
theorem comp_places {n i : Nat} {ps : List Pl} {ρ : DEnv} {S : Store} {Q : PQ} (hs : S[n]? = some (shp ps)) {sh : Nat} (hsh : ∀ x, (ρ.set i x)[sh]? = some (some (.ref n))) (hi : i < ρ.length)
    (h : Q (.ref S.length) (S ++ [.lst ((fullL ps).map .int)])) : compG (fun _ => True) (tN i) (wOp pNe (wOp pIx (wVar sh) (wVar i)) (wTup [])) (wVar i) (rangeD 0 ps.length) [] ρ S Q := by
  refine comp_range (fun i => if fullAt ps i then some (.int i) else none) (fun j hj N hN => ?_) ?_
  · have e := pl_at (ps := ps) (i := j) hj
    have e3 : fullAt ps j = ps[j].isSome := by
      unfold fullAt
      rw [List.getElem?_eq_getElem hj]
      cases ps[j] <;> rfl
    have hv : ∀ d, (ρ.set i d)[i]? = some d := fun d => by simp [hi]
    simp [hsh, hv, hs, e]
    rw [e3] at hN
    cases e2 : ps[j] with
    | none => simpa [e2] using hN
    | some u => simpa [e2] using hN
  · have e : (List.range ps.length).filterMap (fun i => if fullAt ps i = true then some (D.int i) else none) = (fullL ps).map .int := by
      unfold fullL fullN
      rw [← List.filterMap_eq_map, ← List.filterMap_eq_map, ← List.filterMap_eq_filter, List.filterMap_filterMap, List.filterMap_filterMap]
      congr 1
      funext i
      by_cases h : fullAt ps i = true <;> simp [h, Option.guard]
    rw [e]; exact h
def sp_writes_of : SPf
  | [.ref n, .ref m], S, Q, _ => ∃ ps mv, S[n]? = some (shp ps) ∧ S[m]? = some (mvp mv) ∧ (∀ x ∈ mv, 0 ≤ x.1 ∧ x.1 < ps.length) ∧ mv.length ≤ 50000 ∧ Q (.ref S.length) (S ++ [wrp (wrsOf ps mv)])
  | _, _, _, _ => False
theorem len_writes_of : ∀ ds S Q E, sp_writes_of ds S Q E → ds.length = 2 := by
  intro ds S Q E h; unfold sp_writes_of at h; split at h <;> first | rfl | exact h.elim
abbrev n_writes_of : List Str := ["shelf", "moves", "writes", "place", "aim"]
def w_writes_of : WS :=
  wsSeq (wsSet 2 (wLst [])) (wsSeq (wsFor (tT [3, 4]) (wVar 1) (wsSeq (wsExpr (wM "list" mAppend (wVar 2) [wTup [wVar 4, wOp pIx (wVar 0) (wVar 3)]])) (wsExpr (wM "list" mAppend (wVar 2) [wTup [wVar 3, wTup []]])))) (wsRet (wVar 2)))

theorem wrsOf_len (ps : List Pl) (mv : List Mv) : (wrsOf ps mv).length = 2 * mv.length := by
  induction mv with
  | nil => rfl
  | cons x mv ih => simp [wrsOf] at ih ⊢; omega
theorem wrsOf_next {ps : List Pl} {mv : List Mv} {i : Nat} (h : i < mv.length) : wrsOf ps (mv.take (i + 1)) = wrsOf ps (mv.take i) ++ [(mv[i].2, plAt ps mv[i].1.toNat), (mv[i].1, none)] := by
  unfold wrsOf
  rw [take_next h, List.flatMap_append]
  simp only [List.flatMap_cons, List.flatMap_nil, List.append_nil]
theorem plAt_at {ps : List Pl} {i : Int} (h0 : 0 ≤ i) (h1 : i < ps.length) : atI (ps.map ePl.enc) i = some (ePl.enc (plAt ps i.toNat)) := by
  rw [atI_lt h0 (by simpa using h1)]
  have : i.toNat < ps.length := by omega
  simp [plAt, List.getD, List.getElem?_eq_getElem this]
theorem ob_writes_of : Ob n_writes_of sp_writes_of w_writes_of := by
  intro ds S Q E hS hd h
  unfold sp_writes_of at h
  split at h
  · rename_i n m
    obtain ⟨ps, mv, hn, hm, hin, hl, hq⟩ := h
    have hz4 : (200000 : Nat) ≤ sizeLine := by decide
    simp [w_writes_of, startD]
    refine ⟨_, app_get hm, loop_list (S := S ++ [wrp []]) (fun i ρ S' => S' = S ++ [wrp (wrsOf ps (mv.take i))] ∧ ∃ x y, ρ = [some (.ref n), some (.ref m), some (.ref S.length), x, y]) ⟨rfl, none, none, rfl⟩ (fun i ρ S' h => by rw [h.1]; exact app_get hm) ?_ ?_⟩
    · rintro i x ρ S' N hx ⟨rfl, a, b, rfl⟩ hN
      have hi : i < mv.length := by simpa using (List.getElem?_eq_some_iff.mp hx).1
      rw [List.getElem?_map, List.getElem?_eq_getElem hi] at hx
      obtain ⟨h0, h1⟩ := hin mv[i] (List.getElem_mem _)
      have e := plAt_at (ps := ps) h0 h1
      have fin := hN _ _ ⟨rfl, some (.int mv[i].1), some (.int mv[i].2), rfl⟩
      rw [wrsOf_next hi] at fin
      have hwl := wrsOf_len ps (mv.take i)
      have hmt : (mv.take i).length = i := by simp; omega
      simp at hx
      subst hx
      simp [eMv, setAll, isT_at, app_get hn, e]
      refine ⟨by omega, by omega, ?_⟩
      simpa [wrp] using fin
    · rintro ρ S' ⟨rfl, a, b, rfl⟩
      simp
      exact ret_any hq
  · exact h.elim
/-! ### rows -/
def rowsS (acc : List Th) (t : Th) : List Th := if acc.getLast? = some t then acc else acc ++ [t]
def rowsT (ts : List Th) : List Th := ts.foldl rowsS []
theorem rowsT_snoc (ts : List Th) (t : Th) : rowsT (ts ++ [t]) = rowsS (rowsT ts) t := by simp [rowsT]
theorem rises_noEqD {ts : List Th} (h : Rises ts) : NoEq ts := fun i hi e => by
  have := rises_at h i hi
  rw [List.getElem?_eq_getElem (by omega), List.getElem?_eq_getElem hi] at e
  rw [Option.some.inj e] at this
  omega
theorem twice_noD {m r : List Th} {t : Th} (h : m.getLast? = some t) : ¬ NoEq (m ++ t :: r) := fun hno => by
  rw [List.getLast?_eq_getElem?] at h
  obtain ⟨hl, e⟩ := List.getElem?_eq_some_iff.mp h
  refine hno (m.length - 1) (by simp; omega) ?_
  rw [List.getElem?_append_left (by omega), h, List.getElem?_append_right (by omega), show m.length - 1 + 1 - m.length = 0 by omega]; rfl
theorem rises_ne {l : List Th} {t : Th} {r : List Th} (h : Rises (l ++ t :: r)) : l.getLast? ≠ some t := fun e => twice_noD e (rises_noEqD h)
theorem rowsT_go : ∀ (r l : List Th), Rises (l ++ r) → r.foldl rowsS l = l ++ r
  | [], l, _ => by simp
  | t :: r, l, h => by
    have hne := rises_ne h
    have e : rowsS l t = l ++ [t] := by unfold rowsS; rw [if_neg hne]
    rw [List.foldl_cons, e]
    have := rowsT_go r (l ++ [t]) (by simpa using h)
    simpa using this
theorem rowsT_rises {ts : List Th} (h : Rises ts) : rowsT ts = ts := by
  have := rowsT_go ts [] (by simpa using h)
  simpa [rowsT] using this
theorem rowsT_twice {l r : List Th} {t : Th} (h : Rises (l ++ t :: r)) : rowsT (l ++ t :: t :: r) = l ++ t :: r := by
  have h1 : Rises l := (List.pairwise_append.mp h).1
  have e : rowsT (l ++ t :: t :: r) = (t :: r).foldl rowsS (rowsS l t) := by
    unfold rowsT
    rw [List.foldl_append]
    have := rowsT_rises h1
    unfold rowsT at this
    rw [this]; rfl
  have e2 : rowsS l t = l ++ [t] := by unfold rowsS; rw [if_neg (rises_ne h)]
  rw [e, e2, List.foldl_cons]
  have e3 : rowsS (l ++ [t]) t = l ++ [t] := by unfold rowsS; rw [if_pos (by simp)]
  rw [e3]
  have := rowsT_go r (l ++ [t]) (by simpa using h)
  simpa using this
/-! ### texts: a global text, a text in a text, int(text) -/
section
variable {X : Cx} {WW : WX} {pos : Pos}
theorem se_gstr {x s : Str} (hg : Gl X x) (h : ∃ u, X.mg x = some u ∧ RelV (.str s) u) (hd : (x == ("__debug__" : Str)) = false := by decide) : PE X (.Name x pos) (tm X.K X.mg WW (ret (.str s))) :=
  let ⟨_, hm, r⟩ := h
  PE.conv (pe_glob hg hm r hd) (ret_c fun _ _ _ => by simp only [RD])
end
def pNotInS : D → D → W
  | .str a, .str b => ret (.bl ((Builtin.Str.occurrences b a 0 b.length 1).isEmpty))
  | _, _ => fail
def bIntS : BPf
  | [.str a] => fun _ S Q _ => ∃ n, PySem.intText? a = some n ∧ a.length ≤ 640 ∧ Q (.int n) S
  | _ => fail
section
variable {K : PySem.W.Frag} {mg : Str → Option Value} {WW : WX}
theorem pr_notInS : Pr2 K mg WW pNotInS (fun x y H Q => ∃ i j, x = .str i ∧ y = .str j ∧ Q (.bl (!(!(Builtin.Str.occurrences j i 0 j.length 1).isEmpty))) H) := by
  intro φ ρ S σ H Q d1 d2 x y r1 r2 h
  unfold pNotInS at h
  split at h
  · rw [r1.str_inv, r2.str_inv]
    refine ⟨_, _, rfl, rfl, ?_⟩
    rw [Bool.not_not]
    exact h.ret RD.bl
  · exact h.no.elim
theorem pb_intS : PrB K mg WW bIntS (fun xs H Q => ∃ a n, xs = [.str a] ∧ PySem.intText? a = some n ∧ a.length ≤ 640 ∧ Q (.int n) H) := by
  intro φ ρ S σ H Q ds vs r h
  unfold bIntS at h
  split at h
  · obtain ⟨v, rfl, q0⟩ := r.one
    rw [q0.str_inv]
    obtain ⟨rs, re, Q', E', ⟨n, h1, h2, hq⟩, hn, hx⟩ := h
    exact ⟨_, n, rfl, h1, h2, hn _ _ hq _ _ _ Ext.refl rs RD.int⟩
  · exact h.no.elim
end
/-! ### list(zip(a, b)) -/
theorem zip_no_len : typeLookup (.type "zip") "__len__" = pure none := PySem.am_miss_of_fast (by decide +kernel)
theorem zip_no_hint : typeLookup (.type "zip") "__length_hint__" = pure none := PySem.am_miss_of_fast (by decide +kernel)
/-- the zip object at its i-th turn, beside the list at S -/
structure ZSt (z TI TO i1 i2 l1 l2 S : Addr) (xs ys : Array Value) (i : Nat) (h : Heap) : Prop where
  ti : IsPair h TI (.ref i1) (.ref i2)
  t1 : h.IsListIter i1 l1 i
  t2 : h.IsListIter i2 l2 i
  a1 : h.IsList l1 xs
  a2 : h.IsList l2 ys
  zs : (IsZip h z TI TO .none ∧ ∃ a b, IsPair h TO a b) ∨ ∃ T f oT, IsZipHeld h z TI TO T f ∧ h.get? T = some oT ∧ T ≠ z ∧ T ≠ i1 ∧ T ≠ i2 ∧ T ≠ S
def zRefs (S : Addr) (i : Nat) : List Value := (List.range i).map fun j => Value.ref (S + 1 + j)
def ZAcc (S : Addr) (xs ys : Array Value) (i : Nat) (h : Heap) : Prop := (∃ c, h.get? S = some { cls := .type "list", dict := none, data := .seq (zRefs S i).toArray c, slots := #[] }) ∧
  ∀ j x y, j < i → xs[j]? = some x → ys[j]? = some y → IsPair h (S + 1 + j) x y
structure ZOff (z TI TO i1 i2 l1 l2 S : Addr) : Prop where
  z : z < S
  ti : TI < S
  to : TO < S
  i1 : i1 < S
  i2 : i2 < S
  l1 : l1 < S
  l2 : l2 < S
section
variable {prog : Program} {w : World} {A : Around} {E : Value → Shared → Prop} {s : Shared} {z TI TO i1 i2 l1 l2 S : Addr} {xs ys : Array Value} {i : Nat}
theorem zip_turn {Q : Option Value → Shared → Prop} (D : ZipApart z TI TO i1 i2 l1 l2) (O : ZOff z TI TO i1 i2 l1 l2 S) (st : ZSt z TI TO i1 i2 l1 l2 S xs ys i s.heap) (hsz : S < s.heap.objs.size) {x y : Value} (ex : xs[i]? = some x) (ey : ys[i]? = some y)
    (hQ : ∀ h', ZSt z TI TO i1 i2 l1 l2 S xs ys (i + 1) h' → h'.objs.size = s.heap.objs.size + 1 → IsPair h' s.heap.objs.size x y →
      (∀ c o, c ≠ z → c ≠ TO → c ≠ i1 → c ≠ i2 → s.heap.get? c = some o → h'.get? c = some o) → Q (some (.ref s.heap.objs.size)) { s with heap := h' }) : wpAny (model prog w) A (pyNext (.ref z)) Q E s := by
  obtain ⟨hTI, h1, h2, hl1, hl2, hz⟩ := st
  have b1 := O.z; have b2 := O.i1; have b3 := O.i2; have b4 := O.to
  have m1 : s.heap.objs.size ≠ z := Nat.ne_of_gt (Nat.lt_trans b1 hsz)
  have m2 : s.heap.objs.size ≠ i1 := Nat.ne_of_gt (Nat.lt_trans b2 hsz)
  have m3 : s.heap.objs.size ≠ i2 := Nat.ne_of_gt (Nat.lt_trans b3 hsz)
  have m4 : s.heap.objs.size ≠ S := Nat.ne_of_gt hsz
  rcases hz with ⟨hz, a, b, hTO⟩ | ⟨T, f, oT, hz, hT, r1, r2, r3, r4⟩
  · refine wpAny_pyNext_zip_item D hz hTI hTO h1 h2 hl1 hl2 ex ey fun h' a1 a2 a3 a4 a5 a6 hk => ?_
    refine hQ h' ⟨hk _ _ D.TIz D.TITO D.TIi1 D.TIi2 hTI, a3, a4, hl1.at fun o e => hk _ o D.l1z D.l1TO D.l1i1 D.l1i2 e, hl2.at fun o e => hk _ o D.l2z D.l2TO D.l2i1 D.l2i2 e, .inr ⟨s.heap.objs.size, false, _, a1, a5, m1, m2, m3, m4⟩⟩ a6 a5 hk
  · refine wpAny_pyNext_zip_item_held D hz hT hTI h1 h2 hl1 hl2 ex ey fun h' a1 a3 a4 a5 a6 hk => ?_
    refine hQ h' ⟨hk _ _ D.TIz D.TIi1 D.TIi2 hTI, a3, a4, hl1.at fun o e => hk _ o D.l1z D.l1i1 D.l1i2 e, hl2.at fun o e => hk _ o D.l2z D.l2i1 D.l2i2 e, .inr ⟨T, true, oT, a1, hk _ _ r1 r2 r3 hT, r1, r2, r3, r4⟩⟩ a6 a5 fun c o c1 _ c3 c4 e => hk c o c1 c3 c4 e
theorem zip_over {Q : Option Value → Shared → Prop} (hh : A.handled = none) (D : ZipApart z TI TO i1 i2 l1 l2) (st : ZSt z TI TO i1 i2 l1 l2 S xs ys i s.heap) (hend : xs[i]? = none ∨ ys[i]? = none)
    (hQ : ∀ h', (∀ c o, c ≠ z → c ≠ TO → c ≠ i1 → c ≠ i2 → s.heap.get? c = some o → h'.get? c = some o) → Q none { s with heap := h' }) : wpAny (model prog w) A (pyNext (.ref z)) Q E s := by
  obtain ⟨hTI, h1, h2, hl1, hl2, hz⟩ := st
  rcases hz with ⟨hz, a, b, hTO⟩ | ⟨T, f, oT, hz, hT, r1, r2, r3, r4⟩
  · exact wpAny_pyNext_zip_end hh D hz hTI hTO h1 h2 hl1 hl2 hend hQ
  · exact wpAny_pyNext_zip_end_held hh D hz hT hTI h1 h2 hl1 hl2 hend fun h' hk => hQ h' fun c o c1 _ c3 c4 e => hk c o c1 c3 c4 e
theorem ZSt.upd (D : ZipApart z TI TO i1 i2 l1 l2) (O : ZOff z TI TO i1 i2 l1 l2 S) {h h' : Heap} (st : ZSt z TI TO i1 i2 l1 l2 S xs ys i h) (k : ∀ b o, b ≠ S → h.get? b = some o → h'.get? b = some o) : ZSt z TI TO i1 i2 l1 l2 S xs ys i h' := by
  obtain ⟨hTI, h1, h2, hl1, hl2, hz⟩ := st
  have n := fun {c : Addr} (h : c < S) => Nat.ne_of_lt h
  refine ⟨k _ _ (n O.ti) hTI, h1.at fun o e => k _ o (n O.i1) e, h2.at fun o e => k _ o (n O.i2) e, hl1.at fun o e => k _ o (n O.l1) e, hl2.at fun o e => k _ o (n O.l2) e, ?_⟩
  rcases hz with ⟨hz, a, b, hTO⟩ | ⟨T, f, oT, hz, hT, r1, r2, r3, r4⟩
  · exact .inl ⟨k _ _ (n O.z) hz, a, b, k _ _ (n O.to) hTO⟩
  · exact .inr ⟨T, f, oT, k _ _ (n O.z) hz, k _ _ r4 hT, r1, r2, r3, r4⟩
theorem zRefs_push (S : Addr) (i : Nat) : (zRefs S i).toArray.push (.ref (S + 1 + i)) = (zRefs S (i + 1)).toArray := by
  unfold zRefs
  rw [List.push_toArray, List.range_succ, List.map_append]; rfl
theorem zip_extend {R : Result → Shared → Prop} (hh : A.in1.handled = none) (D : ZipApart z TI TO i1 i2 l1 l2) (O : ZOff z TI TO i1 i2 l1 l2 S) (hn : min xs.size ys.size ≤ sizeLine) (res : Value) :
    ∀ (k i : Nat) (s : Shared), min xs.size ys.size - i = k → i ≤ min xs.size ys.size → ZSt z TI TO i1 i2 l1 l2 S xs ys i s.heap → ZAcc S xs ys i s.heap → s.heap.objs.size = S + 1 + i →
    (∀ h', ZAcc S xs ys (min xs.size ys.size) h' → (∀ c o, c ≠ z → c ≠ TO → c ≠ i1 → c ≠ i2 → c ≠ S → s.heap.get? c = some o → h'.get? c = some o) → R (.ok (.ret res)) { s with heap := h' }) →
    codeAny (model prog w) A (.builtin "list.extend.loop" ⟨[.ref S, .ref z, res], []⟩) R s := by
  have b1 := O.z; have b2 := O.i1; have b3 := O.i2; have b4 := O.to
  have far : ∀ j, S ≤ j → j ≠ z ∧ j ≠ TO ∧ j ≠ i1 ∧ j ≠ i2 := fun j h => ⟨Nat.ne_of_gt (Nat.lt_of_lt_of_le b1 h), Nat.ne_of_gt (Nat.lt_of_lt_of_le b4 h), Nat.ne_of_gt (Nat.lt_of_lt_of_le b2 h), Nat.ne_of_gt (Nat.lt_of_lt_of_le b3 h)⟩
  intro k
  induction k with
  | zero =>
    intro i s hk hi st acc hs hR
    have hin : i = min xs.size ys.size := by omega
    refine codeAny_builtin F.entry_extend_loop ?_
    rw [Around.under_plainId F.plain_extend_loop _]
    show wpAny _ A.in1 (pyNext (.ref z) >>= _) _ _ s
    have hend : xs[i]? = none ∨ ys[i]? = none := by
      rcases Nat.le_total xs.size ys.size with h | h
      · exact .inl (Array.getElem?_eq_none (by rw [hin, Nat.min_eq_left h]; exact Nat.le_refl _))
      · exact .inr (Array.getElem?_eq_none (by rw [hin, Nat.min_eq_right h]; exact Nat.le_refl _))
    refine wpAny_bind (zip_over hh D st hend fun h' hk => ?_)
    refine wpAny_pure ?_
    obtain ⟨⟨c, e⟩, hp⟩ := acc
    obtain ⟨f1, f2, f3, f4⟩ := far S (Nat.le_refl _)
    refine hR h' ⟨⟨c, by rw [← hin]; exact hk S _ f1 f2 f3 f4 e⟩, fun j x y hj ex ey => ?_⟩ fun c o c1 c2 c3 c4 _ e => hk c o c1 c2 c3 c4 e
    obtain ⟨f1, f2, f3, f4⟩ := far (S + 1 + j) (Nat.le_trans (Nat.le_succ S) (Nat.le_add_right _ _))
    exact hk _ _ f1 f2 f3 f4 (hp j x y (by omega) ex ey)
  | succ k ih =>
    intro i s hk hi st acc hs hR
    have hlt : i < min xs.size ys.size := by omega
    have ex := Array.getElem?_eq_getElem (xs := xs) (i := i) (Nat.lt_of_lt_of_le hlt (Nat.min_le_left ..))
    have ey := Array.getElem?_eq_getElem (xs := ys) (i := i) (Nat.lt_of_lt_of_le hlt (Nat.min_le_right ..))
    refine codeAny_builtin F.entry_extend_loop ?_
    rw [Around.under_plainId F.plain_extend_loop _]
    show wpAny _ A.in1 (pyNext (.ref z) >>= _) _ _ s
    refine wpAny_bind (zip_turn D O st (by rw [hs]; exact Nat.lt_of_lt_of_le (Nat.lt_succ_self S) (Nat.le_add_right _ _)) ex ey fun h' st' hs' hpair hk' => ?_)
    obtain ⟨⟨c, e⟩, hp⟩ := acc
    obtain ⟨f1, f2, f3, f4⟩ := far S (Nat.le_refl _)
    have hS' := hk' S _ f1 f2 f3 f4 e
    show wpAny _ A.in1 (updateSeq S (·.push (Value.ref s.heap.objs.size)) >>= _) _ _ _
    refine wpAny_bind ?_
    have hl : (zRefs S i).length = i := by unfold zRefs; simp
    refine wpAny_updateSeq hS' rfl (wpAny_pure ⟨plainId_quiet F.plain_extend_loop _, ih (i + 1) _ (by omega) hlt ?_ ?_ ?_ fun h'' acc'' hk'' => ?_⟩)
      (by rw [List.size_toArray, hl]; omega) (by show ((zRefs S i).toArray.push _).size ≤ sizeLine + 1; rw [Array.size_push, List.size_toArray, hl]; omega)
    · exact st'.upd D O fun b o hb q => (Heap.get?_update_other _ _ (Ne.symm hb)).trans q
    · refine ⟨?_, fun j x y hj ex' ey' => ?_⟩
      · have := Heap.get?_update_self (Obj.mapSeq (·.push (Value.ref s.heap.objs.size))) hS' rfl
        rw [← zRefs_push, ← hs]
        exact ⟨_, this⟩
      · refine (Heap.get?_update_other _ _ (Nat.ne_of_lt (Nat.lt_of_lt_of_le (Nat.lt_succ_self S) (Nat.le_add_right _ _)))).trans ?_
        by_cases hj2 : j < i
        · obtain ⟨f1, f2, f3, f4⟩ := far (S + 1 + j) (Nat.le_trans (Nat.le_succ S) (Nat.le_add_right _ _))
          exact hk' _ _ f1 f2 f3 f4 (hp j x y hj2 ex' ey')
        · have : j = i := by omega
          subst this
          rw [ex] at ex'; rw [ey] at ey'
          cases ex'; cases ey'
          rw [← hs]; exact hpair
    · show (h'.update S _).objs.size = _
      rw [(Heap.SameBut.update h' S _).1, hs', hs]; omega
    · exact hR h'' acc'' fun c o c1 c2 c3 c4 c5 q => hk'' c o c1 c2 c3 c4 c5 ((Heap.get?_update_other _ _ (Ne.symm c5)).trans (hk' c o c1 c2 c3 c4 q))
theorem zip_extendWith {R : Result → Shared → Prop} (hh : A.in1.handled = none) (D : ZipApart z TI TO i1 i2 l1 l2) (O : ZOff z TI TO i1 i2 l1 l2 S) (hn : min xs.size ys.size ≤ sizeLine) (res : Value)
    (hz : IsZip s.heap z TI TO .none) (st : ZSt z TI TO i1 i2 l1 l2 S xs ys 0 s.heap) {c₀ : Nat} (hS : s.heap.get? S = some { cls := .type "list", dict := none, data := .seq #[] c₀, slots := #[] }) (hs : s.heap.objs.size = S + 1)
    (hR : ∀ h', ZAcc S xs ys (min xs.size ys.size) h' → (∀ c o, c ≠ z → c ≠ TO → c ≠ i1 → c ≠ i2 → c ≠ S → s.heap.get? c = some o → h'.get? c = some o) → R (.ok (.ret res)) { s with heap := h' }) :
    wpAny (model prog w) A.in1 (Builtin.List.listExtendWith (.ref S) (.ref z) res)
      (fun fin s' => match fin with | .done f => R (.ok f) s' | .again c' => c'.quiet = true ∧ codeAny (model prog w) A c' R s') (fun e s' => R (.error e) s') s := by
  have hT : s.TypeIs (.ref z) "zip" := ⟨_, hz, rfl⟩
  have hSz : S ≠ z := Nat.ne_of_gt O.z
  unfold Builtin.List.listExtendWith
  refine wpAny_bind (wpAny_typeOf hT ?_)
  have h1 : Builtin.List.listSameRef (.ref S) (.ref z) = false := by simp [Builtin.List.listSameRef, hSz]
  have h2 : (Value.type "zip" == Value.type "list") = false := by decide
  have h3 : (Value.type "zip" == Value.type "tuple") = false := by decide
  simp only [h1, h2, h3, Bool.or_false, Bool.false_eq_true, if_false]
  refine wpAny_bind (wpAny_pyIter_zip hz ?_)
  refine wpAny_bind (wpAny_holding ?_)
  unfold Builtin.List.listLengthHint
  refine wpAny_bind (wpAny_specialOf hT zip_no_len ?_)
  show wpAny _ A.in1 (specialOf (Value.ref z) (Str.ofString "__length_hint__") >>= _) _ _ _
  refine wpAny_bind (wpAny_specialOf hT zip_no_hint ?_)
  refine wpAny_pure ?_
  show wpAny _ A.in1 (rule "list.extend.makes-room" >>= fun _ => Builtin.List.listTouch (.ref S) >>= fun _ =>
    again (.builtin "list.extend.loop" ⟨[.ref S, .ref z, res], []⟩)) _ _ _
  refine wpAny_bind (wpAny_rule ?_)
  refine wpAny_bind ?_
  show wpAny _ A.in1 (updateSeq S (·.push .none) >>= fun _ => updateSeq S (·.pop)) _ _ _
  refine wpAny_bind (wpAny_updateSeq hS rfl ?_)
  have hS₂ := Heap.get?_update_self (Obj.mapSeq (·.push Value.none)) hS rfl
  refine wpAny_updateSeq (hz := by seq_fits) hS₂ rfl ?_
  have hS₃ := Heap.get?_update_self (Obj.mapSeq (·.pop)) hS₂ rfl
  have oth : ∀ b o, b ≠ S → s.heap.get? b = some o → ((s.heap.update S (Obj.mapSeq (·.push Value.none))).update S (Obj.mapSeq (·.pop))).get? b = some o :=
    fun b o hb e => (Heap.get?_update_other _ _ (Ne.symm hb)).trans ((Heap.get?_update_other _ _ (Ne.symm hb)).trans e)
  refine wpAny_pure ⟨plainId_quiet F.plain_extend_loop _, zip_extend hh D O hn res _ 0 _ rfl (Nat.zero_le _) (st.upd D O oth) ⟨⟨_, hS₃⟩, fun j x y hj => absurd hj (Nat.not_lt_zero _)⟩ ?_ fun h' acc hk => ?_⟩
  · show ((s.heap.update S _).update S _).objs.size = _
    rw [(Heap.SameBut.update _ S _).1, (Heap.SameBut.update _ S _).1, hs]
  · exact hR h' acc fun c o c1 c2 c3 c4 c5 q => hk c o c1 c2 c3 c4 c5 (oth c o c5 q)
theorem zip_init {R : Result → Shared → Prop} (hh : A.in1.handled = none) (D : ZipApart z TI TO i1 i2 l1 l2) (O : ZOff z TI TO i1 i2 l1 l2 S) (hn : min xs.size ys.size ≤ sizeLine)
    (hz : IsZip s.heap z TI TO .none) (st : ZSt z TI TO i1 i2 l1 l2 S xs ys 0 s.heap) (hS : s.heap.get? S = some { cls := .type "list", data := .seq #[] }) (hs : s.heap.objs.size = S + 1)
    (hR : ∀ h', ZAcc S xs ys (min xs.size ys.size) h' → (∀ c o, c ≠ z → c ≠ TO → c ≠ i1 → c ≠ i2 → c ≠ S → s.heap.get? c = some o → h'.get? c = some o) → R (.ok (.ret .none)) { s with heap := h' }) :
    wpAny (model prog w) A.in1 (Builtin.«list.__init__» ⟨[.ref S, .ref z], []⟩)
      (fun fin s' => match fin with | .done f => R (.ok f) s' | .again c' => c'.quiet = true ∧ codeAny (model prog w) A c' R s') (fun e s' => R (.error e) s') s := by
  show wpAny _ _ (do let old ← Builtin.List.listItems (.ref S); Builtin.List.listUpdate (.ref S) (fun _ => #[]); letGo old.toList.reverse; Builtin.List.listExtendWith (.ref S) (.ref z) .none) _ _ s
  refine wpAny_bind ?_
  unfold Builtin.List.listItems
  refine wpAny_bind (wpAny_seqItems hS rfl (wpAny_pure ?_))
  show wpAny _ _ (updateSeq S (fun _ => #[]) >>= fun _ => letGo (#[] : Array Value).toList.reverse >>= fun _ => Builtin.List.listExtendWith (.ref S) (.ref z) .none) _ _ s
  refine wpAny_bind (wpAny_updateSeq hS rfl ?_)
  have hS₂ := Heap.get?_update_self (Obj.mapSeq (fun _ => (#[] : Array Value))) hS rfl
  have oth : ∀ b o, b ≠ S → s.heap.get? b = some o → (s.heap.update S (Obj.mapSeq (fun _ => (#[] : Array Value)))).get? b = some o :=
    fun b o hb e => (Heap.get?_update_other _ _ (Ne.symm hb)).trans e
  refine wpAny_bind (wpAny_letGo ?_)
  refine zip_extendWith hh D O hn .none (oth _ _ (Nat.ne_of_lt O.z) hz) (st.upd D O oth) hS₂ ?_ fun h' acc hk => hR h' acc fun c o c1 c2 c3 c4 c5 q => hk c o c1 c2 c3 c4 c5 (oth c o c5 q)
  show (s.heap.update S _).objs.size = _
  rw [(Heap.SameBut.update _ S _).1, hs]
end
section
variable {prog : Program} {w : World} {A : Around} {E : Value → Shared → Prop} {s : Shared} {z TI TO i1 i2 l1 l2 : Addr} {xs ys : Array Value}
theorem call_list_zip {Q : Value → Shared → Prop} (hh : A.handled = none) (D : ZipApart z TI TO i1 i2 l1 l2) (O : ZOff z TI TO i1 i2 l1 l2 s.heap.objs.size) (hn : min xs.size ys.size ≤ sizeLine)
    (hz : IsZip s.heap z TI TO .none) (hTI : IsPair s.heap TI (.ref i1) (.ref i2)) (hTO : ∃ a b, IsPair s.heap TO a b) (h1 : s.heap.IsListIter i1 l1 0) (h2 : s.heap.IsListIter i2 l2 0) (hl1 : s.heap.IsList l1 xs) (hl2 : s.heap.IsList l2 ys)
    (hQ : ∀ h', ZAcc s.heap.objs.size xs ys (min xs.size ys.size) h' → (∀ c o, c ≠ z → c ≠ TO → c ≠ i1 → c ≠ i2 → s.heap.get? c = some o → h'.get? c = some o) → Q (.ref s.heap.objs.size) { s with heap := h' }) :
    wpAny (model prog w) A (call (.type "list") [.ref z]) Q E s := by
  refine callType_codes (Q₁ := fun obj s₁ => obj = .ref s.heap.objs.size ∧ s₁ = { s with heap := s.heap.push { cls := .type "list", data := .seq #[] } }) F.called_list (F.typeCall_list_1 _) F.entry_list_init
    (code_list_new _ ⟨rfl, rfl⟩) fun obj s₁ h₁ => ?_
  obtain ⟨rfl, rfl⟩ := h₁
  have hS : (s.heap.push { cls := .type "list", data := .seq #[] }).get? s.heap.objs.size = some { cls := .type "list", data := .seq #[] } := Heap.get?_push_size _ rfl
  have up : ∀ b o, s.heap.get? b = some o → (s.heap.push { cls := .type "list", data := .seq #[] }).get? b = some o := fun b o q => Heap.get?_push_of_some _ q
  obtain ⟨a, b, hTO⟩ := hTO
  refine ⟨⟨_, hS, rfl⟩, F.args_list_init_2 _ _, zip_init (A := A.in1) (s := { s with heap := s.heap.push { cls := .type "list", data := .seq #[] } }) hh D O hn (up _ _ hz)
    ⟨up _ _ hTI, h1.at fun o e => up _ o e, h2.at fun o e => up _ o e, hl1.at fun o e => up _ o e, hl2.at fun o e => up _ o e, .inl ⟨up _ _ hz, a, b, up _ _ hTO⟩⟩ hS (Heap.size_push ..) fun h' acc hk => ?_⟩
  exact ⟨rfl, hQ h' acc fun c o c1 c2 c3 c4 e => hk c o c1 c2 c3 c4 (Nat.ne_of_lt (Heap.lt_size e)) (up _ _ e)⟩
end
def zipT (H : Hp) (S : Addr) (pr : List (V × V)) : Hp := fun c => if S < c then (match pr[c - S - 1]? with
  | some p => some (.tup [p.1, p.2])
  | none => H c) else H c
def zipR (S : Addr) (n : Nat) : List V := (List.range n).map fun j => V.ref (S + 1 + j)
theorem zipT_lo {H : Hp} {S c : Addr} {pr : List (V × V)} (h : c ≤ S) : zipT H S pr c = H c := by
  unfold zipT; rw [if_neg (Nat.not_lt_of_le h)]
theorem zipT_at {H : Hp} {S : Addr} {pr : List (V × V)} {j : Nat} {p : V × V} (h : pr[j]? = some p) : zipT H S pr (S + 1 + j) = some (.tup [p.1, p.2]) := by
  unfold zipT
  have e : S + 1 + j - S - 1 = j := by
    have : ∀ a b : Nat, a + 1 + b - a - 1 = b := fun a b => by omega
    exact this S j
  rw [if_pos (Nat.lt_of_lt_of_le (Nat.lt_succ_self S) (Nat.le_add_right _ _)), e, h]
def tLZ (K : PySem.W.Frag) (ta : TA) : TE := fun σ H Q => ta σ H fun vs H1 => ∃ a b xs ys, vs = [.ref a, .ref b] ∧ SqL K H1 a xs ∧ SqL K H1 b ys ∧
  ∀ S, (∀ c, S ≤ c → H1 c = none) → Q (.ref S) (upd (zipT H1 S (xs.zip ys)) S (.lst (zipR S (xs.zip ys).length)))
theorem vals_zip (S : Addr) : ∀ (n : Nat), Vals (zipR S n) (zRefs S n) := by
  intro n
  unfold zipR zRefs
  refine vals_of_at (by simp) fun j x u h1 h2 => ?_
  rw [List.getElem?_map] at h1 h2
  cases e : (List.range n)[j]? with
  | none => rw [e] at h1; simp at h1
  | some k =>
    rw [e] at h1 h2
    simp at h1 h2
    subst h1; subst h2; rfl
theorem inv_zip {X : Cx} {pins : List (Addr × Obj)} {σ : L2.St} {H : Hp} {s : Shared} {h' : Heap} {S : Addr} {xs ys : List V} {us vs : List Value} (I : Inv X pins σ H s) (hs : s.heap.objs.size ≤ S)
    (k : ∀ b o, s.heap.get? b = some o → h'.get? b = some o) (r1 : Vals xs us) (r2 : Vals ys vs) (hz : xs.length ≤ sizeLine) (acc : ZAcc S us.toArray vs.toArray (min us.toArray.size vs.toArray.size) h') :
    Inv X pins σ (upd (zipT H S (xs.zip ys)) S (.lst (zipR S (xs.zip ys).length))) { s with heap := h' } := by
  have lo : ∀ b, b < s.heap.objs.size → upd (zipT H S (xs.zip ys)) S (.lst (zipR S (xs.zip ys).length)) b = H b := fun b hb => by
    rw [upd_ne (Nat.ne_of_lt (Nat.lt_of_lt_of_le hb hs)), zipT_lo (Nat.le_of_lt (Nat.lt_of_lt_of_le hb hs))]
  have l1 := r1.length
  have l2 := r2.length
  have hn : min us.toArray.size vs.toArray.size = (xs.zip ys).length := by simp; omega
  rw [hn] at acc
  obtain ⟨⟨c, eS⟩, hp⟩ := acc
  refine I.un (t' := s.toks) ⟨fun b o q _ _ _ => k b o q, fun b o q _ _ _ => ⟨o.slots, k b o q⟩, fun b o q n _ => by rw [lo b (Heap.lt_size q)]; exact n, fun b o q _ => ⟨o, k b o q⟩,
    fun b x q => by rw [lo b (I.hok.lt q)]; exact q, fun b o u q => by rw [lo b (I.hok.lt q)]; exact q, fun b ps q => ⟨#[], by rw [lo b (I.hok.lt q), q]; simp⟩⟩ fun b o q => ?_
  by_cases hb : b = S
  · subst hb
    rw [upd_same] at q; cases q
    refine ⟨?_, zRefs b (xs.zip ys).length, c, vals_zip b _, eS⟩
    unfold zipR
    simp; omega
  · rw [upd_ne hb] at q
    by_cases hl : b < s.heap.objs.size
    · rw [zipT_lo (Nat.le_of_lt (Nat.lt_of_lt_of_le hl hs))] at q
      refine (I.hok b o q).stay (fun b u _ e => k b u e) (fun b e => ?_) (fun b x e => ?_)
      · rw [lo b (I.hok.lt e)]; exact e
      · rw [lo b (I.hok.lt e)]; exact e
    · unfold zipT at q
      have hn : H b = none := I.hok.fresh (Nat.le_of_not_lt hl)
      split at q
      · rename_i hSb
        split at q
        · rename_i p hpz
          cases q
          have e2 : S + 1 + (b - S - 1) = b := by
            have : ∀ a d : Nat, a < d → a + 1 + (d - a - 1) = d := fun a d h => by omega
            exact this S b hSb
          obtain ⟨x, y⟩ := p
          rw [List.getElem?_zip_eq_some] at hpz
          obtain ⟨u, hu, ru⟩ := r1.get hpz.1
          obtain ⟨v, hv, rv⟩ := r2.get hpz.2
          have hjl : b - S - 1 < (xs.zip ys).length := by
            have a1 := (List.getElem?_eq_some_iff.mp hpz.1).1
            have a2 := (List.getElem?_eq_some_iff.mp hpz.2).1
            rw [List.length_zip]; exact Nat.lt_min.mpr ⟨a1, a2⟩
          have := hp (b - S - 1) u v hjl (by simpa using hu) (by simpa using hv)
          rw [e2] at this
          exact ⟨by show 2 ≤ sizeLine; decide, [u, v], .cons ru (.cons rv .nil), ⟨_, this, rfl, _, rfl⟩⟩
        · rw [hn] at q; cases q
      · rw [hn] at q; cases q
section
variable {X : Cx} {e e2 : Expr} {ta : TA}
theorem pe_listZip {p pos p2 pos2 : Pos} (hc : X.calm = true) (hg : Gl X "list") (hm : X.mg "list" = none) (hgz : Gl X "zip") (hmz : X.mg "zip" = none) (ha : PA X [e, e2] ta)
    (hs : starEach [e, e2] X.env = (false, eval e X.env) :: starEach [e2] X.env := by rfl) (hpl : (backTo pos2 (starEach [e2] X.env)).any (·.1) = false := by rfl)
    (na : starEach [.Call (.Name "zip" p2) [e, e2] [] pos2] X.env = (false, eval (.Call (.Name "zip" p2) [e, e2] [] pos2) X.env) :: starEach [] X.env := by rfl) :
    PE X (.Call (.Name "list" p) [.Call (.Name "zip" p2) [e, e2] [] pos2] [] pos) (tLZ X.K ta) := by
  refine ⟨fun pins s σ H Q I h => ?_⟩
  refine Call_ (ld_blt I hg hm boot_list (PyProof.Rows.callWith_type1 (args_cons (Call_ (ld_blt I hgz hmz PyProof.Rows.boot_zip (PyProof.Rows.callWith_type1 (thn (ha.run pos2 pins s σ H _ I h) fun us s1 ⟨vs, H1, I1, r1, q1⟩ => ?_) hs hpl))) na) na))
  obtain ⟨a, b, xs, ys, ex, hqx, hqy, q⟩ := q1
  subst ex
  cases r1 with
  | cons r rr =>
    cases rr with
    | cons r' rr =>
      cases rr
      cases r
      cases r'
      obtain ⟨its, rv, p1, hlx⟩ := I1.list hqx
      obtain ⟨its2, rv2, p2, _⟩ := I1.list hqy
      have la : a < s1.heap.objs.size := p1.lt
      have lb : b < s1.heap.objs.size := p2.lt
      refine call_zip_2 p1.isList p2.isList fun h' hz hTI hTO h1 h2 hsz hk => args_nil ?_
      have D := PySem.W.ktu_apart s1.heap.objs.size a b la lb
      have m1 : min its.toArray.size its2.toArray.size ≤ sizeLine := by
        have := rv.length
        refine Nat.le_trans (Nat.min_le_left ..) ?_
        simp; omega
      have hS : s1.heap.objs.size ≤ h'.objs.size := by rw [hsz]; exact Nat.le_add_right _ _
      refine call_list_zip (s := { s1 with heap := h' }) (I1.ok.hd hc) D ?_ m1 hz hTI ⟨_, _, hTO⟩ h1 h2 (p1.isList.at fun o e => hk _ o e) (p2.isList.at fun o e => hk _ o e) fun h2 acc hk2 => ?_
      · have o5 : ∀ n k : Nat, k < 5 → n + k < n + 5 := fun n k h => by omega
        have ol : ∀ c n : Nat, c < n → c < n + 5 := fun n k h => by omega
        constructor <;> (show _ < h'.objs.size; rw [hsz])
        · exact o5 _ 4 (by decide)
        · exact o5 _ 2 (by decide)
        · exact o5 _ 3 (by decide)
        · exact o5 _ 0 (by decide)
        · exact o5 _ 1 (by decide)
        · exact ol _ _ la
        · exact ol _ _ lb
      · have k : ∀ c o, s1.heap.get? c = some o → h2.get? c = some o := fun c o e => by
          have hl := Heap.lt_size e
          have on : ∀ c n k : Nat, c < n → c ≠ n + k := fun c n k h => by omega
          exact hk2 c o (on _ _ 4 hl) (on _ _ 3 hl) (on _ _ 0 hl) (on _ _ 1 hl) (hk _ _ e)
        have J := inv_zip (S := h'.objs.size) I1 hS k rv rv2 hlx acc
        exact ⟨V.ref h'.objs.size, _, J, rfl, q h'.objs.size fun c hcS => I1.hok.fresh (Nat.le_trans hS hcS)⟩
end
/-! over the store -/
def zipD (xs ys : List D) : List D := (xs.zip ys).map fun p => .tup [p.1, p.2]
def wZL (a b : W) : W := fun ρ S Q E => evWs [a, b] ρ S (fun ds S1 => ∃ m n xs ys, ds = [.ref m, .ref n] ∧ S1[m]? = some (.lst xs) ∧ S1[n]? = some (.lst ys) ∧ Q (.ref S1.length) (S1 ++ [.lst (zipD xs ys)])) E
theorem rd_zip {K : PySem.W.Frag} {φ : List Addr} {H : Hp} {S : Addr} : ∀ (n : Nat) (xs ys : List D) (us vs : List V), RDs K φ H xs us → RDs K φ H ys vs → (∀ j p, (us.zip vs)[j]? = some p → H (S + 1 + (n + j)) = some (.tup [p.1, p.2])) →
    RDs K φ H (zipD xs ys) ((List.range (us.zip vs).length).map fun j => V.ref (S + 1 + (n + j)))
  | n, [], ys, us, vs, h1, h2, h => by
    have : us = [] := by simpa [RDs] using h1
    subst this
    simpa [zipD] using RDs.nil
  | n, x :: xs, [], us, vs, h1, h2, h => by
    have : vs = [] := by simpa [RDs] using h2
    subst this
    simpa [zipD] using RDs.nil
  | n, x :: xs, y :: ys, us, vs, h1, h2, h => by
    obtain ⟨u, ur, rfl, r1, t1⟩ := h1.inv
    obtain ⟨v, vr, rfl, r2, t2⟩ := h2.inv
    have e0 := h 0 (u, v) rfl
    have ih := rd_zip (S := S) (n + 1) xs ys ur vr t1 t2 fun j p e => by
      have := h (j + 1) p (by simpa using e)
      rw [show n + (j + 1) = n + 1 + j from by omega] at this
      exact this
    have e1 : (List.range ((u :: ur).zip (v :: vr)).length).map (fun j => V.ref (S + 1 + (n + j))) = V.ref (S + 1 + n) :: (List.range (ur.zip vr).length).map fun j => V.ref (S + 1 + (n + 1 + j)) := by
      rw [show ((u :: ur).zip (v :: vr)).length = (ur.zip vr).length + 1 from by simp, List.range_succ_eq_map, List.map_cons, List.map_map]
      congr 1
      refine List.map_congr_left fun j _ => ?_
      show V.ref (S + 1 + (n + (j + 1))) = _
      rw [show n + (j + 1) = n + 1 + j from by omega]
    rw [e1]
    refine RDs.cons ?_ ih
    simp only [RD]
    exact ⟨_, _, rfl, e0, RDs.cons r1 (RDs.cons r2 RDs.nil)⟩
theorem zip_go {X : Cx} {WW : WX} {wa wb : W} (σ : L2.St) (H : Hp) (Q : VK) (q : tm X.K X.mg WW (wZL wa wb) σ H Q) : tLZ X.K (tma X.K X.mg WW [wa, wb]) σ H Q := by
  obtain ⟨φ, ρ, S, rs, re, Q', E', hw, hn, hx⟩ := q
  refine ⟨φ, ρ, S, rs, re, _, E', hw, fun ds S1 h1 vs φ1 H1 x1 rs1 rd1 => ?_, hx⟩
  obtain ⟨m, n, xs, ys, e, hm, hn', hq⟩ := h1
  subst e
  obtain ⟨v, w, rfl, q1, q2⟩ := rd1.two
  obtain ⟨a1, v1, rfl, ha1, e1, d1, z1⟩ := rs1.lst hm q1
  obtain ⟨a2, v2, rfl, ha2, e2, d2, z2⟩ := rs1.lst hn' q2
  refine ⟨a1, a2, v1, v2, rfl, SqL.of e1, SqL.of e2, fun P hP => ?_⟩
  have lo : ∀ c o, H1 c = some o → c < P := fun c o e => by
    rcases Nat.lt_or_ge c P with h | h
    · exact h
    · rw [hP c h] at e; cases e
  have kp : ∀ c o, H1 c = some o → zipT H1 P (v1.zip v2) c = some o := fun c o e => by rw [zipT_lo (Nat.le_of_lt (lo c o e))]; exact e
  have xT : Ext φ1 H1 φ1 (zipT H1 P (v1.zip v2)) := ⟨⟨[], by simp⟩, fun b o e _ => kp b o e, fun b o e _ => kp b o e, fun b hb => .inl hb⟩
  have rsT : RS X.K X.mg φ1 S1 (zipT H1 P (v1.zip v2)) := by
    refine ⟨rs1.len, rs1.nd, fun n c a e1 e2 => (rs1.cell n c a e1 e2).mono xT ?_⟩
    have hm := rs1.mut (List.mem_of_getElem? e2)
    cases eo : H1 a with
    | none => rw [eo] at hm; exact hm.elim
    | some o => exact kp a o eo
  have hPn : zipT H1 P (v1.zip v2) P = none := by rw [zipT_lo (Nat.le_refl _)]; exact hP P (Nat.le_refl _)
  have rz : RDs X.K φ1 (zipT H1 P (v1.zip v2)) (zipD xs ys) (zipR P (v1.zip v2).length) := by
    have := rd_zip (S := P) 0 xs ys v1 v2 (d1.mono xT) (d2.mono xT) fun j p e => by rw [Nat.zero_add]; exact zipT_at e
    simpa [zipR] using this
  refine mk_list rsT rz ?_ (fun d S' a v φ' H' x => hn d S' a v φ' H' (x1.trans (xT.trans x))) hq P hPn
  have : (zipD xs ys).length ≤ xs.length := by unfold zipD; rw [List.length_map, List.length_zip]; exact Nat.min_le_left ..
  omega
section
variable {X : Cx} {WW : WX} {e e2 : Expr} {wa wb : W}
theorem se_listZip {p pos p2 pos2 : Pos} (hc : X.calm = true) (hg : Gl X "list") (hm : X.mg "list" = none) (hgz : Gl X "zip") (hmz : X.mg "zip" = none) (ha : PE X e (tm X.K X.mg WW wa)) (hb : PE X e2 (tm X.K X.mg WW wb))
    (hs : starEach [e, e2] X.env = (false, eval e X.env) :: starEach [e2] X.env := by rfl) (hs2 : starEach [e2] X.env = (false, eval e2 X.env) :: starEach [] X.env := by rfl) (hpl : (backTo pos2 (starEach [e2] X.env)).any (·.1) = false := by rfl)
    (na : starEach [.Call (.Name "zip" p2) [e, e2] [] pos2] X.env = (false, eval (.Call (.Name "zip" p2) [e, e2] [] pos2) X.env) :: starEach [] X.env := by rfl) :
    PE X (.Call (.Name "list" p) [.Call (.Name "zip" p2) [e, e2] [] pos2] [] pos) (tm X.K X.mg WW (wZL wa wb)) :=
  PE.conv (pe_listZip hc hg hm hgz hmz (sa_cons ha (sa_cons hb sa_nil hs2) hs) hs hpl na) zip_go
end
@[simp] theorem e_ZL {ρ : DEnv} {S : Store} {Q : PQ} {E : PX} {a b : W} : wZL a b ρ S Q E = evWs [a, b] ρ S (fun ds S1 => ∃ m n xs ys, ds = [.ref m, .ref n] ∧ S1[m]? = some (.lst xs) ∧ S1[n]? = some (.lst ys) ∧ Q (.ref S1.length) (S1 ++ [.lst (zipD xs ys)])) E := rfl
/-! ### dicts with ints and texts as keys -/
def keyD : D → Option Key
  | .int i => some (.inl i)
  | .str x => some (.inr x)
  | _ => none
def dkV : Key → D
  | .inl i => .int i
  | .inr x => .str x
def valD (kvs : List (Key × D)) (k : Key) : Option D := (kvs.find? fun kv => decide (kv.1 = k)).map (·.2)
def putD (kvs : List (Key × D)) (k : Key) (v : D) : List (Key × D) := if (kvs.any fun kv => decide (kv.1 = k)) = true then kvs.map (fun kv => if kv.1 = k then (kv.1, v) else kv) else kvs ++ [(k, v)]
def dropD (kvs : List (Key × D)) (k : Key) : List (Key × D) := kvs.filter fun kv => decide (kv.1 ≠ k)
section
variable {K : PySem.W.Frag} {mg : Str → Option Value} {WW : WX} {φ : List Addr} {ρ : DEnv} {S : Store} {σ : L2.St} {H : Hp} {Q : VK}
theorem RKs.nil' {κ : Type} : RKs K φ H ([] : List (κ × D)) [] := ⟨rfl, RDs.nil⟩
theorem RKs.inv {κ : Type} {k : κ} {d : D} {r : List (κ × D)} {vs : List (κ × V)} (h : RKs K φ H ((k, d) :: r) vs) : ∃ v t, vs = (k, v) :: t ∧ RD K φ H d v ∧ RKs K φ H r t := by
  obtain ⟨h1, h2⟩ := h
  cases vs with
  | nil => simp at h1
  | cons p t =>
    obtain ⟨v, q, e, a, b⟩ := RDs.inv (by simpa using h2)
    simp at h1 e
    obtain ⟨k', v'⟩ := p
    simp at h1 e
    obtain ⟨rfl, h1⟩ := h1
    obtain ⟨rfl, rfl⟩ := e
    exact ⟨v', t, rfl, a, h1, b⟩
theorem RKs.cons {κ : Type} {k : κ} {d : D} {v : V} {r : List (κ × D)} {t : List (κ × V)} (h : RD K φ H d v) (q : RKs K φ H r t) : RKs K φ H ((k, d) :: r) ((k, v) :: t) := ⟨by simp [q.1], by simpa using RDs.cons h q.2⟩
theorem RKs.nil_inv {κ : Type} {vs : List (κ × V)} (h : RKs K φ H ([] : List (κ × D)) vs) : vs = [] := by
  have := h.1
  cases vs with
  | nil => rfl
  | cons p t => simp at this
theorem RKs.val {k : Key} : ∀ {ks : List (Key × D)} {vs : List (Key × V)}, RKs K φ H ks vs → (valD ks k = none ∧ valV vs k = none) ∨ ∃ d v, valD ks k = some d ∧ valV vs k = some v ∧ RD K φ H d v
  | [], vs, h => by rw [h.nil_inv]; exact .inl ⟨rfl, rfl⟩
  | (k', d) :: r, vs, h => by
    obtain ⟨v, t, rfl, rd, h⟩ := h.inv
    by_cases e : k' = k
    · exact .inr ⟨d, v, by simp [valD, List.find?_cons, e], by simp [valV, List.find?_cons, e], rd⟩
    · have := RKs.val (k := k) h
      simpa [valD, valV, List.find?_cons, e] using this
theorem RKs.any {k : Key} {ks : List (Key × D)} {vs : List (Key × V)} (h : RKs K φ H ks vs) : (ks.any fun kv => decide (kv.1 = k)) = vs.any fun kv => decide (kv.1 = k) := by
  have e1 : (ks.any fun kv => decide (kv.1 = k)) = (ks.map (·.1)).any fun x => decide (x = k) := by rw [List.any_map]; rfl
  have e2 : (vs.any fun kv => decide (kv.1 = k)) = (vs.map (·.1)).any fun x => decide (x = k) := by rw [List.any_map]; rfl
  rw [e1, e2, h.1]
theorem RKs.app {ks : List (Key × D)} {vs : List (Key × V)} {k : Key} {d : D} {v : V} (h : RKs K φ H ks vs) (r : RD K φ H d v) : RKs K φ H (ks ++ [(k, d)]) (vs ++ [(k, v)]) := ⟨by simp [h.1], by simpa using h.2.append (RDs.cons r RDs.nil)⟩
theorem RKs.map {k : Key} {d : D} {v : V} (r : RD K φ H d v) : ∀ {ks : List (Key × D)} {vs : List (Key × V)}, RKs K φ H ks vs → RKs K φ H (ks.map fun kv => if kv.1 = k then (kv.1, d) else kv) (vs.map fun kv => if kv.1 = k then (kv.1, v) else kv)
  | [], vs, h => by rw [h.nil_inv]; exact RKs.nil'
  | (k', d') :: t, vs, h => by
    obtain ⟨v', t', rfl, rd, h⟩ := h.inv
    have ih := RKs.map (k := k) r h
    by_cases e : k' = k
    · simpa [e] using RKs.cons r ih
    · simpa [e] using RKs.cons rd ih
theorem RKs.put {ks : List (Key × D)} {vs : List (Key × V)} {k : Key} {d : D} {v : V} (h : RKs K φ H ks vs) (r : RD K φ H d v) : RKs K φ H (putD ks k d) (putK vs k v) := by
  unfold putD putK
  rw [h.any]
  split
  · exact h.map r
  · exact h.app r
theorem RKs.drop {k : Key} : ∀ {ks : List (Key × D)} {vs : List (Key × V)}, RKs K φ H ks vs → RKs K φ H (dropD ks k) (dropK vs k)
  | [], vs, h => by rw [h.nil_inv]; exact RKs.nil'
  | (k', d') :: t, vs, h => by
    obtain ⟨v', t', rfl, rd, h⟩ := h.inv
    have ih := RKs.drop (k := k) h
    unfold dropD dropK at ih ⊢
    by_cases e : k' = k
    · simpa [e, List.filter_cons] using ih
    · simpa [e, List.filter_cons] using RKs.cons rd ih
theorem putD_length {ks : List (Key × D)} {k : Key} {d : D} (h : ks.length < sizeLine) : (putD ks k d).length ≤ sizeLine := by
  unfold putD
  split
  · simp; omega
  · simp; omega
theorem RS.dct (h : RS K mg φ S H) {n : Nat} {ds : List (Key × D)} {v : V} (hn : S[n]? = some (.dct ds)) (r : RD K φ H (.ref n) v) : ∃ a vs, v = .ref a ∧ φ[n]? = some a ∧ H a = some (.dK vs) ∧ RKs K φ H ds vs ∧ ds.length ≤ sizeLine := by
  simp only [RD] at r
  obtain ⟨a, ha, rfl⟩ := r
  obtain ⟨vs, q, r, z⟩ := h.cell n _ a hn ha
  exact ⟨a, vs, rfl, ha, q, r, z⟩
theorem keyD_rd {d : D} {k : Key} {v : V} (h : keyD d = some k) (r : RD K φ H d v) : v = kV k := by
  cases d <;> simp [keyD] at h
  · subst h; exact r.int_inv
  · subst h; exact r.str_inv
def pInDict : D → D → W
  | y, .ref n => fun _ S Q _ => ∃ k kvs, keyD y = some k ∧ S[n]? = some (.dct kvs) ∧ Q (.bl (valD kvs k).isSome) S
  | _, _ => fail
def pNotInDict : D → D → W
  | y, .ref n => fun _ S Q _ => ∃ k kvs, keyD y = some k ∧ S[n]? = some (.dct kvs) ∧ Q (.bl (!(valD kvs k).isSome)) S
  | _, _ => fail
def pDget : D → D → W
  | .ref n, y => fun _ S Q _ => ∃ k kvs d, keyD y = some k ∧ S[n]? = some (.dct kvs) ∧ valD kvs k = some d ∧ Q d S
  | _, _ => fail
def wDnew : W := fun _ S Q _ => Q (.ref S.length) (S ++ [.dct []])
def wsDput (o i w : W) : WS := fun ρ S D E => w ρ S (fun d S1 => o ρ S1 (fun x S2 => i ρ S2 (fun y S3 => ∃ n k kvs, x = .ref n ∧ keyD y = some k ∧ S3[n]? = some (.dct kvs) ∧ kvs.length < sizeLine ∧ D.nx ρ (S3.set n (.dct (putD kvs k d)))) E) E) E
def isDct (S : Store) : D → Prop
  | .ref n => ∃ ks, S[n]? = some (.dct ks)
  | _ => False
def wMPopDict (o k : W) : W := fun ρ S Q E => o ρ S (fun x S1 => isDct S1 x ∧ k ρ S1 (fun y S2 => ∃ n kvs key d, x = .ref n ∧ S2[n]? = some (.dct kvs) ∧ keyD y = some key ∧ valD kvs key = some d ∧ Q d (S2.set n (.dct (dropD kvs key)))) E) E
def wMGetDict (o k : W) : W := fun ρ S Q E => o ρ S (fun x S1 => isDct S1 x ∧ k ρ S1 (fun y S2 => ∃ n kvs key, x = .ref n ∧ S2[n]? = some (.dct kvs) ∧ keyD y = some key ∧ Q ((valD kvs key).getD .non) S2) E) E
theorem isDct_ok (rs : RS K mg φ S H) {d : D} {v : V} (r : RD K φ H d v) (h : isDct S d) : ∃ a, v = .ref a ∧ IsD H a := by
  cases d with
  | ref n =>
    obtain ⟨ks, h⟩ := h
    obtain ⟨a, vs, rfl, _, e, _⟩ := rs.dct h r
    exact ⟨a, rfl, .inl ⟨vs, .inl e⟩⟩
  | _ => exact h.elim
theorem dget_of (rs : RS K mg φ S H) {n : Nat} {kvs : List (Key × D)} {k : Key} {y : D} {v u : V} (hn : S[n]? = some (.dct kvs)) (r : RD K φ H (.ref n) v) (hk : keyD y = some k) (ry : RD K φ H y u) :
    ∃ a o, v = .ref a ∧ DGet H a u o ∧ ((valD kvs k = none ∧ o = none) ∨ ∃ d w, valD kvs k = some d ∧ o = some w ∧ RD K φ H d w) := by
  obtain ⟨a, vs, rfl, _, e, rk, _⟩ := rs.dct hn r
  refine ⟨a, valV vs k, rfl, ?_, ?_⟩
  · rw [keyD_rd hk ry]; exact DGet.k e
  · rcases rk.val (k := k) with ⟨h1, h2⟩ | ⟨d, w, h1, h2, rd⟩
    · exact .inl ⟨h1, h2⟩
    · exact .inr ⟨d, w, h1, h2, rd⟩
end
section
variable {X : Cx} {WW : WX} {a b c e o i value : Expr} {pos pos' apos cpos p : Pos} {wa wb wo wi w : W}
theorem se_dnew : PE X (.Dict [] [] pos) (tm X.K X.mg WW wDnew) := PE.conv pe_dnewK fun σ H Q ⟨φ, ρ, S, rs, re, Q', E', hw, hn, hx⟩ p hp => by
  have x := Ext.alloc (o := .dK []) rs hp
  exact hn _ _ hw _ _ _ x (rs.alloc hp ⟨[], upd_same, RKs.nil', Nat.zero_le _⟩) (alloc_ref rs p)
theorem din_go (σ : L2.St) (H : Hp) (Q : VK) (q : tm X.K X.mg WW (wOp pInDict wa wb) σ H Q) : tDIn (tm X.K X.mg WW wa) (tm X.K X.mg WW wb) σ H Q := by
  refine tm_bind q fun d v φ ρ S H1 r1 h1 => ?_
  obtain ⟨rs, re, Q1, E1, w1, n1, x1⟩ := h1.bind
  refine ⟨φ, ρ, S, rs, re, Q1, E1, w1, fun d2 S2 h2 v2 φ2 H2 e2 rs2 rd2 => ?_, x1⟩
  obtain ⟨d2, φ2, S2, e2, rd2, q2⟩ := n1 d2 S2 h2 v2 φ2 H2 e2 rs2 rd2
  cases d2 with
  | ref n =>
    obtain ⟨rs, re, Q', E', ⟨k, kvs, hk, hS, hq⟩, hn, hx⟩ := q2
    obtain ⟨a, o, rfl, g, ho⟩ := dget_of rs hS rd2 hk (r1.mono e2)
    refine ⟨a, o, rfl, g, ?_⟩
    have : o.isSome = (valD kvs k).isSome := by rcases ho with ⟨h1, h2⟩ | ⟨d, w, h1, h2, _⟩ <;> rw [h1, h2] <;> rfl
    rw [this]
    exact hn _ _ hq _ _ _ Ext.refl rs RD.bl
  | _ => (obtain ⟨_, _, _, _, hz, _⟩ := q2; cases d <;> exact hz.elim)
theorem dnotin_go (σ : L2.St) (H : Hp) (Q : VK) (q : tm X.K X.mg WW (wOp pNotInDict wa wb) σ H Q) : tDNotIn (tm X.K X.mg WW wa) (tm X.K X.mg WW wb) σ H Q := by
  refine tm_bind q fun d v φ ρ S H1 r1 h1 => ?_
  obtain ⟨rs, re, Q1, E1, w1, n1, x1⟩ := h1.bind
  refine ⟨φ, ρ, S, rs, re, Q1, E1, w1, fun d2 S2 h2 v2 φ2 H2 e2 rs2 rd2 => ?_, x1⟩
  obtain ⟨d2, φ2, S2, e2, rd2, q2⟩ := n1 d2 S2 h2 v2 φ2 H2 e2 rs2 rd2
  cases d2 with
  | ref n =>
    obtain ⟨rs, re, Q', E', ⟨k, kvs, hk, hS, hq⟩, hn, hx⟩ := q2
    obtain ⟨a, o, rfl, g, ho⟩ := dget_of rs hS rd2 hk (r1.mono e2)
    refine ⟨a, o, rfl, g, ?_⟩
    have : o.isSome = (valD kvs k).isSome := by rcases ho with ⟨h1, h2⟩ | ⟨d, w, h1, h2, _⟩ <;> rw [h1, h2] <;> rfl
    rw [this]
    exact hn _ _ hq _ _ _ Ext.refl rs RD.bl
  | _ => (obtain ⟨_, _, _, _, hz, _⟩ := q2; cases d <;> exact hz.elim)
theorem se_inDict (hu : X.A.units + 65 < cLine) (ha : PE X a (tm X.K X.mg WW wa)) (hb : PE X b (tm X.K X.mg WW wb)) (h1 : behindInMarks .In b = false := by first | exact nobehind _ (by decide) (by decide) | rfl) : PE X (.Compare a [.In] [b] pos) (tm X.K X.mg WW (wOp pInDict wa wb)) := PE.conv (pe_cmp (pc_din (by omega) ha hb) h1) din_go
theorem st_inDict (hu : X.A.units + 65 < cLine) (ha : PE X a (tm X.K X.mg WW wa)) (hb : PE X b (tm X.K X.mg WW wb)) (h1 : behindInMarks .In b = false := by first | exact nobehind _ (by decide) (by decide) | rfl) : PT X (.Compare a [.In] [b] pos) (ttm X.K X.mg WW (wOp pInDict wa wb)) := PT.conv (pt_cmp (pc_din (by omega) ha hb) h1) fun σ H Q q => din_go σ H _ q
theorem se_notinDict (hu : X.A.units + 65 < cLine) (ha : PE X a (tm X.K X.mg WW wa)) (hb : PE X b (tm X.K X.mg WW wb)) (h1 : behindInMarks .NotIn b = false := by first | exact nobehind _ (by decide) (by decide) | rfl) : PE X (.Compare a [.NotIn] [b] pos) (tm X.K X.mg WW (wOp pNotInDict wa wb)) := PE.conv (pe_cmp (pc_dnotin (by omega) ha hb) h1) dnotin_go
theorem st_notinDict (hu : X.A.units + 65 < cLine) (ha : PE X a (tm X.K X.mg WW wa)) (hb : PE X b (tm X.K X.mg WW wb)) (h1 : behindInMarks .NotIn b = false := by first | exact nobehind _ (by decide) (by decide) | rfl) : PT X (.Compare a [.NotIn] [b] pos) (ttm X.K X.mg WW (wOp pNotInDict wa wb)) := PT.conv (pt_cmp (pc_dnotin (by omega) ha hb) h1) fun σ H Q q => dnotin_go σ H _ q
theorem se_dget (hu : X.A.units + 65 < cLine) (ha : PE X o (tm X.K X.mg WW wo)) (hb : PE X i (tm X.K X.mg WW wi)) (hs : NoSl i) : PE X (.Subscript o i pos) (tm X.K X.mg WW (wOp pDget wo wi)) := by
  refine PE.conv (pe_dget (by omega) ha hb hs) fun σ H Q q => ?_
  refine tm_bind q fun d v φ ρ S H1 r1 h1 => ?_
  obtain ⟨rs, re, Q1, E1, w1, n1, x1⟩ := h1.bind
  refine ⟨φ, ρ, S, rs, re, Q1, E1, w1, fun d2 S2 h2 v2 φ2 H2 e2 rs2 rd2 => ?_, x1⟩
  obtain ⟨d2, φ2, S2, e2, rd2, q2⟩ := n1 d2 S2 h2 v2 φ2 H2 e2 rs2 rd2
  cases d with
  | ref n =>
    obtain ⟨rs, re, Q', E', ⟨k, kvs, z, hk, hS, hz, hq⟩, hn, hx⟩ := q2
    obtain ⟨a, o, rfl, g, ho⟩ := dget_of rs hS (r1.mono e2) hk rd2
    rcases ho with ⟨h1, h2⟩ | ⟨d, w, h1, h2, rd⟩
    · rw [hz] at h1; cases h1
    · rw [hz] at h1; cases h1; subst h2
      exact ⟨a, w, rfl, g, hn _ _ hq _ _ _ Ext.refl rs rd⟩
  | _ => exact q2.no.elim
theorem ss_dput (hu : X.A.units + 65 < cLine) (ho : PE X o (tm X.K X.mg WW wo)) (hi : PE X i (tm X.K X.mg WW wi)) (hv : PE X value (tm X.K X.mg WW w)) (hs : swapsWith value (some (.Subscript o i pos')) pos.line X.env = pure false := by rfl) :
    PS X (.Assign [.Subscript o i pos'] value pos) (tsm X.K X.mg WW (wsDput wo wi w)) := by
  refine PS.conv (ps_dput (by omega) ho hi hv hs) fun D σ H q => ?_
  refine ts_ex0 (k := fun d => fun ρ S1 D E => wo ρ S1 (fun x S2 => wi ρ S2 (fun y S3 => ∃ n k kvs, x = .ref n ∧ keyD y = some k ∧ S3[n]? = some (.dct kvs) ∧ kvs.length < sizeLine ∧ D.nx ρ (S3.set n (.dct (putD kvs k d)))) E) E) q fun d v φ1 ρ S1 H1 rd q1 => ?_
  refine tsA.ex (k := fun x => fun ρ S2 D E => wi ρ S2 (fun y S3 => ∃ n k kvs, x = .ref n ∧ keyD y = some k ∧ S3[n]? = some (.dct kvs) ∧ kvs.length < sizeLine ∧ D.nx ρ (S3.set n (.dct (putD kvs k d)))) E) q1 fun x xv φ2 S2 H2 e2 rx q2 => ?_
  refine tsA.ex (k := fun y => fun ρ S3 D E => ∃ n k kvs, x = .ref n ∧ keyD y = some k ∧ S3[n]? = some (.dct kvs) ∧ kvs.length < sizeLine ∧ D.nx ρ (S3.set n (.dct (putD kvs k d)))) q2 fun y yv φ3 S3 H3 e3 ry ⟨rs, re, D', E', ⟨n, k, kvs, ex1, hk, hl, hz, hw⟩, hn, hr, hx⟩ => ?_
  subst ex1
  obtain ⟨a, vs, rfl, ha, hH, r, z⟩ := rs.dct hl (rx.mono e3)
  have ex := Ext.write (o := .dK (putK vs k v)) rs (List.mem_of_getElem? ha)
  have rv := (rd.mono e2).mono e3
  refine ⟨a, _, rfl, by rw [keyD_rd hk ry]; exact DPut.k hH (by
    have := congrArg List.length r.1
    simp at this; omega), ?_⟩
  exact hn _ _ hw _ _ _ ex (rs.write ha ⟨_, upd_same, (r.put rv).mono ex, putD_length hz⟩) (re.mono ex)
theorem se_mPopDict {j : Nat} (hr : Room j X.A) (ho : PE X o (tm X.K X.mg WW wo)) (hi : PE X e (tm X.K X.mg WW wi)) (m : M1 X o "pop" apos e cpos := by exact ⟨rfl, rfl, rfl, rfl⟩) : PE X (.Call (.Attribute o "pop" apos) [e] [] cpos) (tm X.K X.mg WW (wMPopDict wo wi)) := by
  refine PE.conv (pe_dpop1 ho hi m) fun σ H Q q => ?_
  obtain ⟨φ, ρ, S, rs, re, Q', E', hw, hn, hx⟩ := q
  refine ⟨φ, ρ, S, rs, re, _, E', hw, fun d S1 ⟨ht, h1⟩ v φ1 H1 x1 rs1 rd1 => ?_, hx⟩
  obtain ⟨a, rfl, hd⟩ := isDct_ok rs1 rd1 ht
  refine ⟨a, rfl, hd, φ1, ρ, S1, rs1, re.mono x1, _, E', h1, fun y S2 h2 u φ2 H2 x2 rs2 rd2 => ?_, fun c ρ2 S2 a u φ2 H2 σ2 x => hx c ρ2 S2 a u φ2 H2 σ2 (x1.trans x)⟩
  obtain ⟨n, kvs, k, z, rfl, hS, hk, hz, hq⟩ := h2
  obtain ⟨a2, vs, e, ha, eH, rk, zl⟩ := rs2.dct hS (rd1.mono x2)
  cases e
  rcases rk.val (k := k) with ⟨h1, h2⟩ | ⟨d, w, h1, h2, rd⟩
  · rw [hz] at h1; cases h1
  · rw [hz] at h1; cases h1
    have ex := Ext.write (o := .dK (dropK vs k)) rs2 (List.mem_of_getElem? ha)
    refine ⟨vs, k, w, eH, keyD_rd hk rd2, h2, ?_⟩
    exact hn _ _ hq _ _ _ ((x1.trans x2).trans ex) (rs2.write ha ⟨_, upd_same, (rk.drop (k := k)).mono ex, Nat.le_trans (List.length_filter_le _ _) zl⟩) (rd.mono ex)
theorem se_mGetDict {j : Nat} (hr : Room j X.A) (ho : PE X o (tm X.K X.mg WW wo)) (hi : PE X e (tm X.K X.mg WW wi)) (m : M1 X o "get" apos e cpos := by exact ⟨rfl, rfl, rfl, rfl⟩) : PE X (.Call (.Attribute o "get" apos) [e] [] cpos) (tm X.K X.mg WW (wMGetDict wo wi)) := by
  refine PE.conv (pe_dget1 (Nat.lt_of_le_of_lt (by omega) (hu_of hr)) ho hi m) fun σ H Q q => ?_
  obtain ⟨φ, ρ, S, rs, re, Q', E', hw, hn, hx⟩ := q
  refine ⟨φ, ρ, S, rs, re, _, E', hw, fun d S1 ⟨ht, h1⟩ v φ1 H1 x1 rs1 rd1 => ?_, hx⟩
  obtain ⟨a, rfl, hd⟩ := isDct_ok rs1 rd1 ht
  refine ⟨a, rfl, hd, φ1, ρ, S1, rs1, re.mono x1, _, E', h1, fun y S2 h2 u φ2 H2 x2 rs2 rd2 => ?_, fun c ρ2 S2 a u φ2 H2 σ2 x => hx c ρ2 S2 a u φ2 H2 σ2 (x1.trans x)⟩
  obtain ⟨n, kvs, k, rfl, hS, hk, hq⟩ := h2
  obtain ⟨a2, o, e, g, ho⟩ := dget_of rs2 hS (rd1.mono x2) hk rd2
  cases e
  refine ⟨o, g, ?_⟩
  rcases ho with ⟨h1, h2⟩ | ⟨d, w, h1, h2, rd⟩
  · rw [h1] at hq; rw [h2]
    exact hn _ _ hq _ _ _ (x1.trans x2) rs2 RD.non
  · rw [h1] at hq; rw [h2]
    exact hn _ _ hq _ _ _ (x1.trans x2) rs2 rd
end
/-! sorted(d) -/
def bSortedDict : BPf
  | [.ref n] => fun _ S Q _ => ∃ kvs ks, S[n]? = some (.dct kvs) ∧ kvs.map (·.1) = ks.map Sum.inl ∧ ks.length < 64 ∧ ∀ ys : List Int, ys.Perm ks → ys.Pairwise (· ≤ ·) → Q (.ref S.length) (S ++ [.lst (ys.map .int)])
  | _ => fail
/-! sorted(ints) -/
def bSortedInts : BPf
  | [.ref n] => fun _ S Q _ => ∃ ks : List Int, S[n]? = some (.lst (ks.map .int)) ∧ ∀ ys : List Int, ys.Perm ks → ys.Pairwise (· ≤ ·) → Q (.ref S.length) (S ++ [.lst (ys.map .int)])
  | _ => fail
section
variable {K : PySem.W.Frag} {mg : Str → Option Value} {WW : WX}
theorem rds_int_inv {φ : List Addr} {H : Hp} : ∀ {ks : List Int} {vs : List V}, RDs K φ H (ks.map D.int) vs → vs = ks.map V.int
  | [], vs, h => by simpa [RDs] using h
  | k :: ks, vs, h => by
    obtain ⟨v, r, rfl, h1, h2⟩ := (show RDs K φ H (.int k :: ks.map D.int) vs from h).inv
    rw [h1.int_inv, rds_int_inv h2]; rfl
theorem pb_sortedDict : PrB K mg WW bSortedDict (fun xs H Q => ∃ (a : Addr) (kvs : List (Key × V)) (ks : List Int), xs = [.ref a] ∧ Rd H a (.dK kvs) ∧ kvs.map (·.1) = ks.map Sum.inl ∧ ks.length < 64 ∧
    ∀ (ys : List Int) (p : Addr), ys.Perm ks → ys.Pairwise (· ≤ ·) → H p = none → Q (.ref p) (upd H p (.lst (ys.map V.int)))) := by
  intro φ ρ S σ H Q ds vs r h
  unfold bSortedDict at h
  split at h
  · obtain ⟨v, rfl, q0⟩ := r.one
    obtain ⟨rs, re, Q', E', ⟨kvs, ks, h1, h2, h3, hq⟩, hn, hx⟩ := h
    obtain ⟨a1, v1, rfl, _, e1, q1, z⟩ := rs.dct h1 q0
    refine ⟨a1, v1, ks, rfl, .inl e1, by rw [← q1.1]; exact h2, h3, fun ys p h4 h5 hp => ?_⟩
    exact mk_list rs (rds_ints ys) (by have := h4.length_eq; simp; have : (64 : Nat) ≤ sizeLine := by decide
                                       omega) hn (hq ys h4 h5) p hp
  · exact h.no.elim
theorem pb_sortedInts : PrB K mg WW bSortedInts (rSortedI K) := by
  intro φ ρ S σ H Q ds vs r h
  unfold bSortedInts at h
  split at h
  · obtain ⟨v, rfl, q0⟩ := r.one
    obtain ⟨rs, re, Q', E', ⟨ks, h1, hq⟩, hn, hx⟩ := h
    obtain ⟨a1, v1, rfl, _, e1, q1, z⟩ := rs.lst h1 q0
    refine ⟨a1, ks, rfl, SqL.of (by rw [← rds_int_inv q1]; exact e1), fun ys p h4 h5 hp => ?_⟩
    exact mk_list rs (rds_ints ys) (by have := h4.length_eq; simp at z ⊢; omega) hn (hq ys h4 h5) p hp
  · exact h.no.elim
end
section
variable {X : Cx} {WW : WX} {e : Expr} {es : List Expr} {pos p : Pos} {ws : List W}
theorem se_bSortedDict {j : Nat} (hr : Room j X.A) (hg : Gl X "sorted") (hm : X.mg "sorted" = none) (ha : PA X (e :: es) (tma X.K X.mg WW ws)) (he : starEach (e :: es) X.env = (false, eval e X.env) :: starEach es X.env := by rfl) (hpl : (backTo pos (starEach es X.env)).any (·.1) = false := by rfl) (hc : X.calm = true := by rfl) :
    PE X (.Call (.Name "sorted" p) (e :: es) [] pos) (tm X.K X.mg WW (wB bSortedDict ws)) := se_callB (call_sortedDI hc) pb_sortedDict hg hm (by decide +kernel) ha (by decide) (by decide) he hpl
theorem se_bSortedInts {j : Nat} (hr : Room j X.A) (hg : Gl X "sorted") (hm : X.mg "sorted" = none) (ha : PA X (e :: es) (tma X.K X.mg WW ws)) (he : starEach (e :: es) X.env = (false, eval e X.env) :: starEach es X.env := by rfl) (hpl : (backTo pos (starEach es X.env)).any (·.1) = false := by rfl) (hc : X.calm = true := by rfl) :
    PE X (.Call (.Name "sorted" p) (e :: es) [] pos) (tm X.K X.mg WW (wB bSortedInts ws)) := se_callB cr_sortedI pb_sortedInts hg hm (by decide +kernel) ha (by decide) (by decide) he hpl
end
section
variable {ρ : DEnv} {S : Store} {Q : PQ} {E : PX} {DD : DEnds} {a b c : W} {y d : D} {i : Nat} {n : Int}
@[simp] theorem e_dnew : wDnew ρ S Q E = Q (.ref S.length) (S ++ [.dct []]) := rfl
@[simp] theorem e_inDict : pInDict (.int n) (.ref i) ρ S Q E = ∃ k kvs, keyD (.int n) = some k ∧ S[i]? = some (.dct kvs) ∧ Q (.bl (valD kvs k).isSome) S := rfl
@[simp] theorem e_notinDict : pNotInDict (.int n) (.ref i) ρ S Q E = ∃ k kvs, keyD (.int n) = some k ∧ S[i]? = some (.dct kvs) ∧ Q (.bl (!(valD kvs k).isSome)) S := rfl
@[simp] theorem e_dget : pDget (.ref i) y ρ S Q E = ∃ k kvs d, keyD y = some k ∧ S[i]? = some (.dct kvs) ∧ valD kvs k = some d ∧ Q d S := rfl
@[simp] theorem e_dput : wsDput a b c ρ S DD E = c ρ S (fun d S1 => a ρ S1 (fun x S2 => b ρ S2 (fun y S3 => ∃ n k kvs, x = .ref n ∧ keyD y = some k ∧ S3[n]? = some (.dct kvs) ∧ kvs.length < sizeLine ∧ DD.nx ρ (S3.set n (.dct (putD kvs k d)))) E) E) E := rfl
@[simp] theorem e_mPopDict : wMPopDict a b ρ S Q E = a ρ S (fun x S1 => isDct S1 x ∧ b ρ S1 (fun y S2 => ∃ n kvs key d, x = .ref n ∧ S2[n]? = some (.dct kvs) ∧ keyD y = some key ∧ valD kvs key = some d ∧ Q d (S2.set n (.dct (dropD kvs key)))) E) E := rfl
@[simp] theorem e_mGetDict : wMGetDict a b ρ S Q E = a ρ S (fun x S1 => isDct S1 x ∧ b ρ S1 (fun y S2 => ∃ n kvs key, x = .ref n ∧ S2[n]? = some (.dct kvs) ∧ keyD y = some key ∧ Q ((valD kvs key).getD .non) S2) E) E := rfl
@[simp] theorem e_isDct : isDct S (.ref i) = ∃ ks, S[i]? = some (.dct ks) := rfl
@[simp] theorem e_keyI : keyD (.int n) = some (.inl n) := rfl
@[simp] theorem e_sortedDict : bSortedDict [.ref i] ρ S Q E = ∃ kvs ks, S[i]? = some (.dct kvs) ∧ kvs.map (·.1) = ks.map Sum.inl ∧ ks.length < 64 ∧ ∀ ys : List Int, ys.Perm ks → ys.Pairwise (· ≤ ·) → Q (.ref S.length) (S ++ [.lst (ys.map .int)]) := rfl
@[simp] theorem e_sortedInts : bSortedInts [.ref i] ρ S Q E = ∃ ks : List Int, S[i]? = some (.lst (ks.map .int)) ∧ ∀ ys : List Int, ys.Perm ks → ys.Pairwise (· ≤ ·) → Q (.ref S.length) (S ++ [.lst (ys.map .int)]) := rfl
end
/-! ### moves_of -/
theorem zipD_int : ∀ (xs ys : List Int), zipD (xs.map D.int) (ys.map D.int) = (xs.zip ys).map eMv.enc
  | [], ys => by simp [zipD]
  | x :: xs, [] => by simp [zipD]
  | x :: xs, y :: ys => by
    have := zipD_int xs ys
    simp only [zipD] at this
    simp [zipD, eMv, eTh] at this ⊢
    exact this
def sp_moves_of : SPf
  | [.ref n, .ref m], S, Q, _ => ∃ xs ys : List Int, S[n]? = some (.lst (xs.map .int)) ∧ S[m]? = some (.lst (ys.map .int)) ∧ xs.length ≤ 50000 ∧ Q (.ref S.length) (S ++ [mvp (movesF (xs.zip ys))])
  | _, _, _, _ => False
theorem len_moves_of : ∀ ds S Q E, sp_moves_of ds S Q E → ds.length = 2 := by
  intro ds S Q E h; unfold sp_moves_of at h; split at h <;> first | rfl | exact h.elim
abbrev n_moves_of : List Str := ["places", "aims", "pairs", "onward", "pair", "backward"]
def w_moves_of : WS :=
  wsSeq (wsSet 2 (wZL (wVar 0) (wVar 1))) (wsSeq (wsSet 3 (wComp [4] (tN 4) (wVar 2) (wOp pGt (wOp pIx (wVar 4) (ret (.int 1))) (wOp pIx (wVar 4) (ret (.int 0)))) (wVar 4))) (wsSeq (wsSet 5 (wComp [4] (tN 4) (wVar 2) (wOp pLt (wOp pIx (wVar 4) (ret (.int 1))) (wOp pIx (wVar 4) (ret (.int 0)))) (wVar 4))) (wsRet (wOp pAdd (wOp1 pRev (wVar 3)) (wVar 5)))))
theorem map_filter_mv (f : Mv → Bool) (prs : List Mv) (g : D → Option D) (hg : ∀ x : Mv, g (eMv.enc x) = if f x = true then some (eMv.enc x) else none) : (prs.map eMv.enc).filterMap g = (prs.filter f).map eMv.enc := by
  induction prs with
  | nil => rfl
  | cons x r ih =>
    rw [List.map_cons, List.filterMap_cons, hg, List.filter_cons]
    by_cases h : f x = true
    · simp [h, ih]
    · simp [h, ih]
theorem ix_mv0 (x : Mv) : atI [D.int x.1, D.int x.2] 0 = some (.int x.1) := rfl
theorem ix_mv1 (x : Mv) : atI [D.int x.1, D.int x.2] 1 = some (.int x.2) := rfl
def onwD : D → Option D
  | .tup [.int a, .int b] => if a < b then some (.tup [.int a, .int b]) else none
  | _ => none
def bkwD : D → Option D
  | .tup [.int a, .int b] => if b < a then some (.tup [.int a, .int b]) else none
  | _ => none
theorem ob_moves_of : Ob n_moves_of sp_moves_of w_moves_of := by
  intro ds S Q E hS hd h
  unfold sp_moves_of at h
  split at h
  · rename_i n m
    obtain ⟨xs, ys, hn, hm, hl, hq⟩ := h
    simp [w_moves_of, startD, atL]
    refine ⟨n, m, ⟨rfl, rfl⟩, _, hn, _, hm, ?_⟩
    rw [zipD_int]
    generalize hp : xs.zip ys = prs at *
    have hpl : prs.length ≤ 50000 := by rw [← hp, List.length_zip]; omega
    refine comp_pure onwD get_at (fun x hx N hN => ?_) ?_
    · obtain ⟨p, _, rfl⟩ := List.mem_map.mp hx
      have e0 := ix_mv0 p
      have e1 := ix_mv1 p
      simp [eMv, eTh, e0, e1, onwD] at hN ⊢
      by_cases h : p.1 < p.2
      · exact .inr ⟨h, by simpa [h] using hN⟩
      · exact .inl ⟨by omega, by simpa [h] using hN⟩
    · rw [map_filter_mv (fun x => decide (x.1 < x.2)) prs onwD (fun x => by simp [eMv, eTh, onwD])]
      simp
      refine comp_pure bkwD (get_at (G := [_])) (fun x hx N hN => ?_) ?_
      · obtain ⟨p, _, rfl⟩ := List.mem_map.mp hx
        have e0 := ix_mv0 p
        have e1 := ix_mv1 p
        simp [eMv, eTh, e0, e1, bkwD] at hN ⊢
        by_cases h : p.2 < p.1
        · exact .inr ⟨h, by simpa [h] using hN⟩
        · exact .inl ⟨by omega, by simpa [h] using hN⟩
      · rw [map_filter_mv (fun x => decide (x.2 < x.1)) prs bkwD (fun x => by simp [eMv, eTh, bkwD])]
        have l1 := List.length_filter_le (fun x : Mv => decide (x.1 < x.2)) prs
        have l2 := List.length_filter_le (fun x : Mv => decide (x.2 < x.1)) prs
        have hz4 : (200000 : Nat) ≤ sizeLine := by decide
        simp
        refine ⟨by omega, ?_⟩
        refine ret_list (S := S) (ds := (movesF prs).map eMv.enc) hS (fun i hi => by rw [List.getElem?_append_left hi]) ?_ (by omega) (cls_map eMv _ _) (by simpa using hq)
        simp [movesF]
  · exact h.elim
/-! ### the walk from rising places to rising aims -/
abbrev SrtI (l : List Int) : Prop := l.Pairwise (· < ·)
inductive Way : List Mv → List Int → List Int → Prop where
  | nil (c : List Int) : Way [] c c
  | cons {x y : Int} {mv : List Mv} {L R c : List Int} : SrtI (L ++ x :: R) → SrtI (L ++ y :: R) → x ≠ y → Way mv (L ++ y :: R) c → Way ((x, y) :: mv) (L ++ x :: R) c
theorem srt_sub {L R : List Int} {x : Int} : SrtI (L ++ x :: R) ↔ SrtI L ∧ (∀ a ∈ L, a < x) ∧ (∀ b ∈ R, x < b) ∧ SrtI R ∧ ∀ a ∈ L, ∀ b ∈ R, a < b := by
  unfold SrtI
  rw [List.pairwise_append, List.pairwise_cons]
  constructor
  · rintro ⟨h1, ⟨h2, h3⟩, h4⟩
    exact ⟨h1, fun a ha => h4 a ha x (List.mem_cons_self ..), h2, h3, fun a ha b hb => h4 a ha b (List.mem_cons_of_mem _ hb)⟩
  · rintro ⟨h1, h2, h3, h4, h5⟩
    exact ⟨h1, ⟨h3, h4⟩, fun a ha b hb => by
      rcases List.mem_cons.mp hb with rfl | hb
      · exact h2 a ha
      · exact h5 a ha b hb⟩
def mx (x : Mv) : Int := if x.1 < x.2 then x.2 else x.1
theorem mx_ge (x : Mv) : x.1 ≤ mx x ∧ x.2 ≤ mx x := by unfold mx; split <;> omega
theorem srt_mx : ∀ {prs : List Mv}, SrtI (prs.map (·.1)) → SrtI (prs.map (·.2)) → SrtI (prs.map mx)
  | [], _, _ => .nil
  | x :: r, h1, h2 => by
    simp only [SrtI, List.map_cons, List.pairwise_cons] at *
    refine ⟨fun b hb => ?_, srt_mx h1.2 h2.2⟩
    obtain ⟨y, hy, rfl⟩ := List.mem_map.mp hb
    have a1 := h1.1 _ (List.mem_map.mpr ⟨y, hy, rfl⟩)
    have a2 := h2.1 _ (List.mem_map.mpr ⟨y, hy, rfl⟩)
    have := mx_ge y
    unfold mx at this ⊢
    split <;> omega
theorem way1 {c : List Int} {rest : List Mv} : ∀ (U : List Mv) (R : List Int), SrtI ((U.reverse.map (·.1)) ++ R) → SrtI (U.reverse.map mx ++ R) → Way rest (U.reverse.map mx ++ R) c →
    Way ((U.filter fun x => decide (x.1 < x.2)) ++ rest) (U.reverse.map (·.1) ++ R) c
  | [], R, _, _, h => by simpa using h
  | x :: U, R, h1, h2, h => by
    simp only [List.reverse_cons, List.map_append, List.map_cons, List.map_nil, List.append_assoc, List.singleton_append] at h1 h2 h ⊢
    replace h1 := srt_sub.mp h1
    replace h2 := srt_sub.mp h2
    obtain ⟨x1, x2⟩ := x
    have key : ∀ a ∈ U.reverse.map (fun y : Mv => y.1), a < mx (x1, x2) := fun a ha => by
      have := h1.2.1 a ha
      have := (mx_ge (x1, x2)).1
      simp at *; omega
    have hb : ∀ b ∈ R, mx (x1, x2) < b := h2.2.2.1
    have s2 : SrtI (U.reverse.map (fun y : Mv => y.1) ++ mx (x1, x2) :: R) := srt_sub.mpr ⟨h1.1, key, hb, h1.2.2.2.1, h1.2.2.2.2⟩
    have ih := way1 U (mx (x1, x2) :: R) s2 (srt_sub.mpr h2) h
    by_cases hx : x1 < x2
    · have e : mx (x1, x2) = x2 := by simp [mx, hx]
      rw [List.filter_cons, if_pos (by simpa using hx), List.cons_append]
      rw [e] at s2 ih
      exact .cons (srt_sub.mpr h1) s2 (by omega) ih
    · have e : mx (x1, x2) = x1 := by simp [mx, hx]
      rw [List.filter_cons, if_neg (by simpa using hx)]
      rw [e] at ih
      exact ih
theorem way2 : ∀ (V : List Mv) (A : List Int), SrtI (A ++ V.map mx) → SrtI (A ++ V.map (·.2)) → Way (V.filter fun x => decide (x.2 < x.1)) (A ++ V.map mx) (A ++ V.map (·.2))
  | [], A, _, _ => by simpa using Way.nil A
  | x :: V, A, h1, h2 => by
    obtain ⟨x1, x2⟩ := x
    simp only [List.map_cons] at h1 h2 ⊢
    replace h1 := srt_sub.mp h1
    replace h2 := srt_sub.mp h2
    have hx2 := (mx_ge (x1, x2)).2
    have s : SrtI (A ++ x2 :: V.map mx) := srt_sub.mpr ⟨h1.1, h2.2.1, fun b hb => by
      have := h1.2.2.1 b hb
      simp at *; omega, h1.2.2.2.1, h1.2.2.2.2⟩
    have ih := way2 V (A ++ [x2]) (by simpa using s) (by simpa using srt_sub.mpr h2)
    simp only [List.append_assoc, List.singleton_append] at ih
    by_cases hx : x2 < x1
    · have e : mx (x1, x2) = x1 := by simp [mx]; omega
      rw [List.filter_cons, if_pos (by simpa using hx)]
      rw [e] at h1 ⊢
      exact .cons (srt_sub.mpr h1) s (by omega) ih
    · have e : mx (x1, x2) = x2 := by unfold mx; simp; omega
      rw [List.filter_cons, if_neg (by simpa using hx)]
      rw [e]
      exact ih
theorem way_moves {prs : List Mv} (h1 : SrtI (prs.map (·.1))) (h2 : SrtI (prs.map (·.2))) : Way (movesF prs) (prs.map (·.1)) (prs.map (·.2)) := by
  have h3 := srt_mx h1 h2
  have w2 := way2 prs [] (by simpa using h3) (by simpa using h2)
  have w1 := way1 (c := prs.map (·.2)) (rest := prs.filter fun x => decide (x.2 < x.1)) prs.reverse [] (by simpa using h1) (by simpa using h3) (by simpa using w2)
  simpa [movesF, List.filter_reverse] using w1
theorem Way.last {mv : List Mv} {a c : List Int} (h : Way mv a c) (he : mv = []) : a = c := by
  cases h with
  | nil => rfl
  | cons => simp at he
/-! ### l.count(x) of data, sorted pairs -/
def rCountD (K : PySem.W.Frag) : V → List V → Hp → VK → Prop := fun x xs H Q => ∃ (a : Addr) (y : V) (d : PyData) (ds : List PyData), x = V.ref a ∧ xs = [y] ∧ Dp K H (V.ref a) (.list ds) ∧ Dp K H y d ∧
  SeqAt.shaped (.list ds) = true ∧ SeqAt.shaped d = true ∧ Q (.int (ds.countP (fun z => PyData.eqv z d) : Nat)) H
section
variable {X : Cx}
theorem mt_countD (hu : X.A.units + 65 < cLine) : MtR X "list.count" (rCountD X.K) := by
  intro pins s σ H x xs v us Q I rx rxs h
  obtain ⟨a, y, d, ds, rfl, rfl, hl, hy, sl, sd, q⟩ := h
  cases rx
  cases rxs with
  | cons ry rt =>
    rename_i uy ut
    cases rt
    obtain ⟨bs, r1⟩ := Dp.reads I d y uy hy ry
    have hxs : PyData.canLayAll0 ds = true := SeqAt.canLay_of_shaped sl
    have hroom : X.A.units + 1 + min (PyData.depthAll ds) d.depth < cLine := room_in_shaped sd hu
    cases hl with
    | lst hs ha =>
      obtain ⟨its, rv, ⟨⟨cls, dd, data, sls⟩, n, ho, hc, hdn, hdt⟩, hlen⟩ := I.list hs
      simp only at hc hdt
      subst hc hdt
      obtain ⟨as, h4⟩ := Dp.readsAll I ds _ its ha rv
      have hmap : its.map (SeqAt.readOf s.heap) = ds := SeqAt.readsAll_map ds its as hxs h4
      refine call_meets PySem.F.slot_list_count ⟨_, ho, rfl⟩ PySem.F.entry_list_count (PySem.F.args_list_count_2 _ _)
        (SeqAt.list_countAt a its.toArray n dd sls uy (fun u => PyData.eqv (SeqAt.readOf s.heap u) d)) ⟨ho, SeqAt.items_eqAt (vs := its.toArray) (show ReadsAll s.heap its.toArray.toList ds as from h4) r1 hxs (SeqAt.canLay_of_shaped sd) hroom, ?_⟩
      have e : its.toArray.toList.countP (fun u => PyData.eqv (SeqAt.readOf s.heap u) d) = ds.countP (fun z => PyData.eqv z d) := by
        rw [← hmap, List.countP_map]; rfl
      rw [e]
      exact ⟨.int (ds.countP (fun z => PyData.eqv z d) : Nat), H, I.tok _, ⟨_, rfl⟩, q⟩
end
def mCount : D → List D → W
  | .ref n, [d] => fun _ S Q _ => ∃ ps p, DPy S (.ref n) (.list ps) ∧ DPy S d p ∧ SeqAt.shaped (.list ps) = true ∧ SeqAt.shaped p = true ∧ Q (.int (ps.countP (fun z => PyData.eqv z p) : Nat)) S
  | _, _ => fail
section
variable {K : PySem.W.Frag} {mg : Str → Option Value} {WW : WX}
theorem pm_count : PrM K mg WW mCount (rCountD K) := by
  intro φ ρ S σ H Q d ds x vs r1 r2 h
  unfold mCount at h
  split at h
  · obtain ⟨v, rfl, r⟩ := r2.one
    obtain ⟨rs, re, Q', E', ⟨ps, p, d1, d2, s1, s2, hq⟩, hn, hx⟩ := h
    have dp1 := d1.dp rs r1
    cases d1 with
    | lst h1 h2 =>
      obtain ⟨a1, v1, rfl, ha, e1, q1, _⟩ := rs.lst h1 r1
      exact ⟨a1, v, p, ps, rfl, rfl, dp1, d2.dp rs r, s1, s2, hn _ _ hq _ _ _ Ext.refl rs RD.int⟩
  · exact h.no.elim
end
section
variable {X : Cx} {WW : WX} {e o : Expr} {es : List Expr} {apos cpos : Pos} {wo wa : W} {ws : List W}
theorem se_count (hu : X.A.units + 65 < cLine) (ho : PE X o (tm X.K X.mg WW wo)) (ha : PE X e (tm X.K X.mg WW wa)) (hbase : attributeBase o "count" X.env (eval o X.env) = eval o X.env := by rfl)
    (hs0 : starEach [e] X.env = (false, eval e X.env) :: starEach [] X.env := by rfl)
    (hfew : ((backTo cpos (starEach [e] X.env)).all (fun x => !x.1) && (backToKw cpos (keywordEach [] X.env)).all (fun x => x.1.isSome) && decide (([e] : List Expr).length + ([] : List Keyword).length + (if ([] : List Keyword).isEmpty then 0 else 1) < 30)) = true := by rfl)
    (hline : (apos.endLine == cpos.line) = true := by rfl) (hplain : (backTo cpos (starEach [] X.env)).any (·.1) = false := by rfl) : PE X (.Call (.Attribute o "count" apos) [e] [] cpos) (tm X.K X.mg WW (wM "list" mCount wo [wa])) :=
  PE.conv (pe_bm PySem.F.plainAttrs_list PySem.F.slot_list_count PySem.F.type_list_count (mt_countD hu) ho (sa_cons ha sa_nil hs0) hbase hfew hline hs0 hplain) (wM_go pm_count)
end
@[simp] theorem e_mCount {ρ : DEnv} {S : Store} {Q : PQ} {E : PX} {n : Nat} {d : D} : mCount (.ref n) [d] ρ S Q E = ∃ ps p, DPy S (.ref n) (.list ps) ∧ DPy S d p ∧ SeqAt.shaped (.list ps) = true ∧ SeqAt.shaped p = true ∧ Q (.int (ps.countP (fun z => PyData.eqv z p) : Nat)) S := rfl
theorem count_en {α : Type} [DecidableEq α] (e : En α) {ρ : DEnv} {S : Store} {Q : PQ} {E : PX} {n : Nat} {xs : List α} {x : α} (h : S[n]? = some (.lst (xs.map e.enc))) (q : Q (.int (xs.count x : Nat)) S) : mCount (.ref n) [e.enc x] ρ S Q E := by
  refine ⟨_, _, .lst h (dpys_map e S xs), e.dpy S x, shaped_list e xs, shaped_en e x, ?_⟩
  have : (xs.map e.py).countP (fun z => PyData.eqv z (e.py x)) = xs.count x := by
    rw [List.countP_map, List.count]
    congr 1
    funext y
    show PyData.eqv (e.py y) (e.py x) = (y == x)
    rw [e.eqv, Bool.beq_eq_decide_eq]
  rw [this]; exact q
/-! sorted(list of pairs) -/
def bSortedPairs : BPf
  | [.ref n] => fun _ S Q _ => ∃ ts : List Th, S[n]? = some (thp ts) ∧ ∀ us : List Th, us.Perm ts → us.Pairwise (fun a b => SrtO.lexB b a = false) → Q (.ref S.length) (S ++ [thp us])
  | _ => fail
def pkV (H : Hp) : V → Th
  | .ref t => match H t with
    | some (.tup [.int i, .int j]) => (i, j)
    | _ => (0, 0)
  | _ => (0, 0)
section
variable {K : PySem.W.Frag} {mg : Str → Option Value} {WW : WX}
theorem rds_th {φ : List Addr} {H : Hp} : ∀ {ts : List Th} {vs : List V}, RDs K φ H (ts.map eTh.enc) vs → ts = vs.map (pkV H) ∧ ∀ x ∈ vs, ∃ t, x = V.ref t ∧ H t = some (.tup [.int (pkV H x).1, .int (pkV H x).2])
  | [], vs, h => by
    have : vs = [] := by simpa [RDs] using h
    subst this; exact ⟨rfl, fun _ h => nomatch h⟩
  | t :: ts, vs, h => by
    obtain ⟨v, r, rfl, h1, h2⟩ := (show RDs K φ H (.tup [.int t.1, .int t.2] :: ts.map eTh.enc) vs from h).inv
    obtain ⟨e, f⟩ := rds_th h2
    simp only [RD] at h1
    obtain ⟨a, ws, rfl, ha, h1⟩ := h1
    obtain ⟨u, w, rfl, q1, q2⟩ := h1.two
    rw [q1.int_inv, q2.int_inv] at ha
    have ek : pkV H (.ref a) = t := by simp [pkV, ha]
    refine ⟨by rw [List.map_cons, ek, ← e], fun x hx => ?_⟩
    rcases List.mem_cons.mp hx with rfl | hx
    · exact ⟨a, rfl, by rw [ek]; exact ha⟩
    · exact f x hx
theorem th_rds {φ : List Addr} {H : Hp} : ∀ {vs : List V}, (∀ x ∈ vs, ∃ t, x = V.ref t ∧ H t = some (.tup [.int (pkV H x).1, .int (pkV H x).2])) → RDs K φ H ((vs.map (pkV H)).map eTh.enc) vs
  | [], _ => RDs.nil
  | v :: vs, h => by
    obtain ⟨t, rfl, ht⟩ := h v (List.mem_cons_self ..)
    rw [List.map_cons, List.map_cons]
    refine RDs.cons ?_ (th_rds fun x hx => h x (List.mem_cons_of_mem _ hx))
    show RD K φ H (.tup [.int (pkV H (.ref t)).1, .int (pkV H (.ref t)).2]) _
    simp only [RD]
    exact ⟨t, _, rfl, ht, RDs.cons RD.int (RDs.cons RD.int RDs.nil)⟩
theorem pb_sortedPairs : PrB K mg WW bSortedPairs (rSortedPO K) := by
  intro φ ρ S σ H Q ds vs r h
  unfold bSortedPairs at h
  split at h
  · obtain ⟨v, rfl, q0⟩ := r.one
    obtain ⟨rs, re, Q', E', ⟨ts, h1, hq⟩, hn, hx⟩ := h
    obtain ⟨a1, v1, rfl, _, e1, q1, z⟩ := rs.lst h1 q0
    obtain ⟨et, ft⟩ := rds_th q1
    refine ⟨a1, v1, pkV H, rfl, SqL.of e1, ft, fun ys p hs hst hp => ?_⟩
    have hperm := hst.perm
    have fy : ∀ x ∈ ys, ∃ t, x = V.ref t ∧ H t = some (.tup [.int (pkV H x).1, .int (pkV H x).2]) := fun x hx => ft x (hperm.subset hx)
    refine mk_list rs (th_rds fy) ?_ hn (hq (ys.map (pkV H)) (by rw [et]; exact hperm.map _) (List.pairwise_map.mpr hs)) p hp
    have := hperm.length_eq
    have := q1.length
    simp at z this ⊢; omega
  · exact h.no.elim
end
section
variable {X : Cx} {WW : WX} {e : Expr} {es : List Expr} {pos p : Pos} {ws : List W}
theorem se_bSortedPairs {j : Nat} (hr : Room j X.A) (hg : Gl X "sorted") (hm : X.mg "sorted" = none) (ha : PA X (e :: es) (tma X.K X.mg WW ws)) (he : starEach (e :: es) X.env = (false, eval e X.env) :: starEach es X.env := by rfl) (hpl : (backTo pos (starEach es X.env)).any (·.1) = false := by rfl) :
    PE X (.Call (.Name "sorted" p) (e :: es) [] pos) (tm X.K X.mg WW (wB bSortedPairs ws)) := se_callB cr_sortedPO pb_sortedPairs hg hm (by decide +kernel) ha (by decide) (by decide) he hpl
end
@[simp] theorem e_sortedPairs {ρ : DEnv} {S : Store} {Q : PQ} {E : PX} {i : Nat} : bSortedPairs [.ref i] ρ S Q E = ∃ ts : List Th, S[i]? = some (thp ts) ∧ ∀ us : List Th, us.Perm ts → us.Pairwise (fun a b => SrtO.lexB b a = false) → Q (.ref S.length) (S ++ [thp us]) := rfl
/-- a list whose keys are all unlike is sorted in one way -/
theorem lex_sorted {us ts : List Th} (hp : us.Perm ts) (hs : us.Pairwise (fun a b => SrtO.lexB b a = false)) (ht : ts.Pairwise (fun a b => a.1 < b.1)) : us = ts := by
  refine hp.eq_of_pairwise (le := fun a b => a.1 < b.1 ∨ a = b) (fun a b _ _ h1 h2 => ?_) ?_ (ht.imp fun h => .inl h)
  · rcases h1 with h1 | h1
    · rcases h2 with h2 | h2
      · omega
      · exact h2.symm
    · exact h1
  · refine hs.imp_of_mem fun {a b} ha hb h => ?_
    have hk : ∀ a ∈ ts, ∀ b ∈ ts, a.1 = b.1 → a = b := fun a ha b hb e => by
      obtain ⟨i, hi, rfl⟩ := List.mem_iff_getElem.mp ha
      obtain ⟨j, hj, rfl⟩ := List.mem_iff_getElem.mp hb
      rcases Nat.lt_trichotomy i j with h | h | h
      · have := List.pairwise_iff_getElem.mp ht i j hi hj h; omega
      · subst h; rfl
      · have := List.pairwise_iff_getElem.mp ht j i hj hi h; omega
    by_cases e : a.1 = b.1
    · exact .inr (hk a (hp.subset ha) b (hp.subset hb) e)
    · left
      simp [SrtO.lexB, Ne.symm e] at h
      omega
/-- what is told behind a call: the old cells, and some new ones in an order of one's own -/
theorem Gc.many {S0 S' : Store} {ks : List Nat} {cs : List Cell} {d' d2 : D} {n : Nat} (hn : S0.length = n) (hc : ClS S0) (h0 : ∀ i, i < n → S'[i]? = S0[i]?) (hk : ks.Nodup) (hnk : ∀ k ∈ ks, n ≤ k) (hl : ks.length = cs.length)
    (hcell : ∀ (i k : Nat) (c : Cell), ks[i]? = some k → cs[i]? = some c → ∃ c', S'[k]? = some c' ∧ RenC (List.range n ++ ks) c c') (hd : Ren (List.range n ++ ks) d2 d') : Gc n S' d' (S0 ++ cs) d2 := by
  subst hn
  have hψ : ∀ i, i < S0.length → (List.range S0.length ++ ks)[i]? = some i := fun i h => range_get h
  refine ⟨List.range S0.length ++ ks, ⟨ks, rfl⟩, ?_, by simp [hl], fun i j c h1 h2 => ?_, hd⟩
  · rw [List.nodup_append]
    exact ⟨List.nodup_range, hk, fun a ha b hb e => by
      have h1 : a < S0.length := by simpa using ha
      have h2 := hnk b hb
      omega⟩
  · by_cases hi : i < S0.length
    · rw [hψ i hi] at h2; cases h2
      rw [List.getElem?_append_left hi] at h1
      exact ⟨c, by rw [h0 i hi]; exact h1, RenC.id hψ (hc i c h1)⟩
    · rw [List.getElem?_append_right (by omega)] at h1
      rw [List.getElem?_append_right (by simp; omega)] at h2
      simp at h2
      exact hcell _ _ _ h2 h1
theorem ren_new {n i k : Nat} {ks : List Nat} (h : ks[i]? = some k) : Ren (List.range n ++ ks) (.ref (n + i)) (.ref k) := by
  simp only [Ren]
  exact ⟨k, by rw [List.getElem?_append_right (by simp)]; simpa using h, rfl⟩
theorem ren_old {n : Nat} {ks : List Nat} {d : D} (h : Cl n d) : Ren (List.range n ++ ks) d d := Ren.id (fun i hi => range_get hi) h
theorem renC_old {n : Nat} {ks : List Nat} {ds : List D} (h : Cls' n ds) : RenC (List.range n ++ ks) (.lst ds) (.lst ds) := RenC.id (c := .lst ds) (fun i hi => range_get hi) h
/-! ### disks: two areas and the sign; three new lists in a new list -/
structure Dk where
  a : List Pl
  b : List Pl
  c : List Pl
/-- a disk that stands at four places behind n -/
def dkC (n : Nat) (d : Dk) : Store := [shp d.a, shp d.b, shp d.c, .lst [.ref n, .ref (n + 1), .ref (n + 2)]]
def DkAt (S : Store) (k : Nat) (d : Dk) : Prop := ∃ i j l, S[k]? = some (.lst [.ref i, .ref j, .ref l]) ∧ S[i]? = some (shp d.a) ∧ S[j]? = some (shp d.b) ∧ S[l]? = some (shp d.c)
theorem DkAt.app {S G : Store} {k : Nat} {d : Dk} (h : DkAt S k d) : DkAt (S ++ G) k d := by
  obtain ⟨i, j, l, h1, h2, h3, h4⟩ := h
  have ap : ∀ {m : Nat} {c : Cell}, S[m]? = some c → (S ++ G)[m]? = some c := fun {m c} h => by rw [List.getElem?_append_left (List.getElem?_eq_some_iff.mp h).1]; exact h
  exact ⟨i, j, l, ap h1, ap h2, ap h3, ap h4⟩
/-- a new disk is told -/
theorem ret_disk {S S' : Store} {d : Dk} {k i j l : Nat} {Q : PQ} (hS : ClS S) (h0 : ∀ i, i < S.length → S'[i]? = S[i]?) (hk : S'[k]? = some (.lst [.ref i, .ref j, .ref l])) (hi : S'[i]? = some (shp d.a)) (hj : S'[j]? = some (shp d.b)) (hl : S'[l]? = some (shp d.c))
    (hnd : [i, j, l, k].Nodup) (hge : ∀ m ∈ [i, j, l, k], S.length ≤ m) (h : Q (.ref (S.length + 3)) (S ++ dkC S.length d)) : RetQ S.length Q (.ref k) S' := by
  refine .inr ⟨_, _, Gc.many (ks := [i, j, l, k]) rfl hS h0 hnd hge rfl ?_ (ren_new (i := 3) rfl), h⟩
  intro x m c h1 h2
  match x, h1, h2 with
  | 0, h1, h2 => simp [dkC] at h1 h2; subst h1 h2; exact ⟨_, hi, renC_old (cls_map ePl _ _)⟩
  | 1, h1, h2 => simp [dkC] at h1 h2; subst h1 h2; exact ⟨_, hj, renC_old (cls_map ePl _ _)⟩
  | 2, h1, h2 => simp [dkC] at h1 h2; subst h1 h2; exact ⟨_, hl, renC_old (cls_map ePl _ _)⟩
  | 3, h1, h2 =>
    simp [dkC] at h1 h2; subst h1 h2
    exact ⟨_, hk, _, rfl, Rens.cons (ren_new (i := 0) rfl) (Rens.cons (ren_new (i := 1) rfl) (Rens.cons (ren_new (i := 2) rfl) Rens.nil))⟩
  | x + 4, h1, h2 => simp at h1
theorem dk0 {S G : Store} {d : Dk} : (S ++ (dkC S.length d ++ G))[S.length]? = some (shp d.a) := by rw [List.getElem?_append_right (by omega)]; simp [dkC]
theorem dk1 {S G : Store} {d : Dk} : (S ++ (dkC S.length d ++ G))[S.length + 1]? = some (shp d.b) := by rw [List.getElem?_append_right (by omega), show S.length + 1 - S.length = 1 by omega]; simp [dkC]
theorem dk2 {S G : Store} {d : Dk} : (S ++ (dkC S.length d ++ G))[S.length + 2]? = some (shp d.c) := by rw [List.getElem?_append_right (by omega), show S.length + 2 - S.length = 2 by omega]; simp [dkC]
theorem dk3 {S G : Store} {d : Dk} : (S ++ (dkC S.length d ++ G))[S.length + 3]? = some (.lst [.ref S.length, .ref (S.length + 1), .ref (S.length + 2)]) := by rw [List.getElem?_append_right (by omega), show S.length + 3 - S.length = 3 by omega]; simp [dkC]
theorem dkAt_new {S G : Store} {d : Dk} : DkAt (S ++ (dkC S.length d ++ G)) (S.length + 3) d := ⟨_, _, _, dk3, dk0, dk1, dk2⟩
/-! a write of a disk: area, place, thing (the sign is a pair, like a thing) -/
abbrev DW := Int × Int × Pl
def dwE (w : DW) : D := .tup [.int w.1, .int w.2.1, ePl.enc w.2.2]
abbrev dwp (ws : List DW) : Cell := .lst (ws.map dwE)
def OkD (d : Dk) (w : DW) : Prop := 0 ≤ w.2.1 ∧ ((w.1 = 0 ∧ w.2.1 < d.a.length) ∨ (w.1 = 1 ∧ w.2.1 < d.b.length) ∨ (w.1 = 2 ∧ w.2.1 < d.c.length))
def Dk.put (d : Dk) (w : DW) : Dk := if w.1 = 0 then { d with a := d.a.set w.2.1.toNat w.2.2 } else if w.1 = 1 then { d with b := d.b.set w.2.1.toNat w.2.2 } else { d with c := d.c.set w.2.1.toNat w.2.2 }
def Dk.puts (d : Dk) (ws : List DW) : Dk := ws.foldl Dk.put d
theorem put_a (d : Dk) (w : DW) : (d.put w).a.length = d.a.length := by unfold Dk.put; split <;> (try split) <;> simp
theorem put_b (d : Dk) (w : DW) : (d.put w).b.length = d.b.length := by unfold Dk.put; split <;> (try split) <;> simp
theorem put_c (d : Dk) (w : DW) : (d.put w).c.length = d.c.length := by unfold Dk.put; split <;> (try split) <;> simp
theorem puts_ok : ∀ (ws : List DW) (d : Dk) (w : DW), OkD (d.puts ws) w ↔ OkD d w
  | [], d, w => Iff.rfl
  | v :: ws, d, w => by
    show OkD ((d.put v).puts ws) w ↔ _
    rw [puts_ok ws (d.put v) w]
    unfold OkD
    rw [put_a, put_b, put_c]
theorem puts_next {d : Dk} {ws : List DW} {i : Nat} (h : i < ws.length) : d.puts (ws.take (i + 1)) = (d.puts (ws.take i)).put ws[i] := by
  unfold Dk.puts
  rw [take_next h, List.foldl_append]; rfl
def sp_written : SPf
  | [.ref n, .ref m], S, Q, _ => ∃ d ws, DkAt S n d ∧ S[m]? = some (dwp ws) ∧ (∀ w ∈ ws, OkD d w) ∧ Q (.ref (S.length + 3)) (S ++ dkC S.length (d.puts ws))
  | _, _, _, _ => False
theorem len_written : ∀ ds S Q E, sp_written ds S Q E → ds.length = 2 := by
  intro ds S Q E h; unfold sp_written at h; split at h <;> first | rfl | exact h.elim
abbrev n_written : List Str := ["disk", "writes", "slabs", "part", "area", "place", "thing"]
def w_written : WS :=
  wsSeq (wsSet 2 (wComp [3] (tN 3) (wVar 0) (wYes) (wB bList [wVar 3]))) (wsSeq (wsFor (tT [4, 5, 6]) (wVar 1) (wsSub (wOp pIx (wVar 2) (wVar 4)) (wVar 5) (wVar 6))) (wsRet (wVar 2)))


theorem set_dk {S G : Store} {d : Dk} {w : DW} {x : Nat} {e : List Pl} (h : (w.1 = 0 ∧ x = S.length ∧ e = d.a.set w.2.1.toNat w.2.2) ∨ (w.1 = 1 ∧ x = S.length + 1 ∧ e = d.b.set w.2.1.toNat w.2.2) ∨ (w.1 = 2 ∧ x = S.length + 2 ∧ e = d.c.set w.2.1.toNat w.2.2)) :
    (S ++ (dkC S.length d ++ G)).set x (shp e) = S ++ (dkC S.length (d.put w) ++ G) := by
  rcases h with ⟨h1, rfl, rfl⟩ | ⟨h1, rfl, rfl⟩ | ⟨h1, rfl, rfl⟩
  · rw [List.set_append_right _ _ (by omega), show S.length - S.length = 0 by omega]; simp [dkC, Dk.put, h1]
  · rw [List.set_append_right _ _ (by omega), show S.length + 1 - S.length = 1 by omega]; simp [dkC, Dk.put, h1]
  · rw [List.set_append_right _ _ (by omega), show S.length + 2 - S.length = 2 by omega]; simp [dkC, Dk.put, h1]
/-- a copy of a disk, part by part -/
theorem comp_copy {n i : Nat} {d : Dk} {x y z : Nat} {ρ : DEnv} {S : Store} {Q : PQ} (h1 : S[n]? = some (.lst [.ref x, .ref y, .ref z])) (ha : S[x]? = some (shp d.a)) (hb : S[y]? = some (shp d.b)) (hc : S[z]? = some (shp d.c)) (hi : i < ρ.length)
    (h : Q (.ref (S.length + 3)) (S ++ dkC S.length d)) : compG (atL n [.ref x, .ref y, .ref z]) (tN i) wYes (wB bList [wVar i]) [.ref x, .ref y, .ref z] [] ρ S Q := by
  have hv : ∀ e, (ρ.set i e)[i]? = some e := fun e => by simp [hi]
  have ap : ∀ {m : Nat} {c : Cell} (G : Store), S[m]? = some c → (S ++ G)[m]? = some c := fun {m c} G h => by rw [List.getElem?_append_left (List.getElem?_eq_some_iff.mp h).1]; exact h
  simp [compG, hv, atL, h1, ha, ap _ h1, ap _ hb, ap _ hc]
  exact h
theorem ix_three {x y z : D} : (atI [x, y, z] 0 = some x) ∧ (atI [x, y, z] 1 = some y) ∧ (atI [x, y, z] 2 = some z) := ⟨rfl, rfl, rfl⟩
theorem dk0n {S : Store} {d : Dk} : (S ++ dkC S.length d)[S.length]? = some (shp d.a) := by simpa using dk0 (S := S) (d := d) (G := [])
theorem dk1n {S : Store} {d : Dk} : (S ++ dkC S.length d)[S.length + 1]? = some (shp d.b) := by simpa using dk1 (S := S) (d := d) (G := [])
theorem dk2n {S : Store} {d : Dk} : (S ++ dkC S.length d)[S.length + 2]? = some (shp d.c) := by simpa using dk2 (S := S) (d := d) (G := [])
theorem dk3n {S : Store} {d : Dk} : (S ++ dkC S.length d)[S.length + 3]? = some (.lst [.ref S.length, .ref (S.length + 1), .ref (S.length + 2)]) := by
  have := dk3 (S := S) (d := d) (G := [])
  rwa [List.append_nil] at this
theorem set_dkn {S : Store} {d : Dk} {w : DW} {x : Nat} {e : List Pl} (h : (w.1 = 0 ∧ x = S.length ∧ e = d.a.set w.2.1.toNat w.2.2) ∨ (w.1 = 1 ∧ x = S.length + 1 ∧ e = d.b.set w.2.1.toNat w.2.2) ∨ (w.1 = 2 ∧ x = S.length + 2 ∧ e = d.c.set w.2.1.toNat w.2.2)) :
    (S ++ dkC S.length d).set x (shp e) = S ++ dkC S.length (d.put w) := by
  have := set_dk (G := []) h
  rwa [List.append_nil, List.append_nil] at this
theorem ob_written : Ob n_written sp_written w_written := by
  intro ds S Q E hS hd h
  unfold sp_written at h
  split at h
  · rename_i n m
    obtain ⟨d, ws, ⟨x, y, z, h1, ha, hb, hc⟩, hm, hok, hq⟩ := h
    simp [w_written, startD, h1, atL]
    refine comp_copy h1 ha hb hc (by simp) ?_
    refine ⟨_, app_get hm, loop_list (S := S ++ dkC S.length d) (fun i ρ S' => S' = S ++ dkC S.length (d.puts (ws.take i)) ∧ ∃ a b c, ρ = [some (.ref n), some (.ref m), some (.ref (S.length + 3)), none, a, b, c]) ⟨rfl, none, none, none, rfl⟩ (fun i ρ S' h => by rw [h.1]; exact app_get hm) ?_ ?_⟩
    · rintro i x ρ S' N hx ⟨rfl, a, b, c, rfl⟩ hN
      have hi : i < ws.length := by simpa using (List.getElem?_eq_some_iff.mp hx).1
      rw [List.getElem?_map, List.getElem?_eq_getElem hi] at hx
      simp only [Option.map_some, Option.some.injEq] at hx
      subst hx
      obtain ⟨w0, w1⟩ := (puts_ok (ws.take i) d ws[i]).mpr (hok _ (List.getElem_mem _))
      have fin := hN _ _ ⟨rfl, some (.int ws[i].1), some (.int ws[i].2.1), some (ePl.enc ws[i].2.2), rfl⟩
      rw [puts_next hi] at fin
      generalize ws[i] = w at *
      generalize d.puts (ws.take i) = e at *
      simp [dwE, setAll]
      rcases w1 with ⟨w1, w2⟩ | ⟨w1, w2⟩ | ⟨w1, w2⟩
      · rw [w1] at fin ⊢
        refine ⟨_, dk3n, _, ix_three.1, _, rfl, _, dk0n, _, ixN_ok w0 (by simpa using w2), ?_⟩
        rw [map_set, set_dkn (w := w) (.inl ⟨w1, rfl, rfl⟩)]
        exact fin
      · rw [w1] at fin ⊢
        refine ⟨_, dk3n, _, ix_three.2.1, _, rfl, _, dk1n, _, ixN_ok w0 (by simpa using w2), ?_⟩
        rw [map_set, set_dkn (w := w) (.inr (.inl ⟨w1, rfl, rfl⟩))]
        exact fin
      · rw [w1] at fin ⊢
        refine ⟨_, dk3n, _, ix_three.2.2, _, rfl, _, dk2n, _, ixN_ok w0 (by simpa using w2), ?_⟩
        rw [map_set, set_dkn (w := w) (.inr (.inr ⟨w1, rfl, rfl⟩))]
        exact fin
    · rintro ρ S' ⟨rfl, a, b, c, rfl⟩
      simp
      exact ret_any hq
  · exact h.elim
def sp_law_area : SPf
  | [.int _, .int _, .int z, .ref n], S, Q, _ => ∃ ts, S[n]? = some (thp ts) ∧ (0 ≤ z ∧ z ≤ 1000) ∧ ∀ ps : List Pl, ps.length = z.toNat → Q (.ref S.length) (S ++ [shp ps])
  | _, _, _, _ => False
def sp_law_disk : SPf
  | [.tup [.int t, .int w, .int s], .int h, .int wh, .ref n, .int _], S, Q, _ => ∃ ps, S[n]? = some (shp ps) ∧ Good t w s ∧ (ps.length : Int) ≤ 2 ^ t.toNat * w ∧ (wh = 0 ∨ wh = 1) ∧
      ∀ a b : List Pl, (a.length : Int) = 2 ^ t.toNat * w → (b.length : Int) = 2 ^ t.toNat * w → (wh = 0 → a.take ps.length = ps) → (wh = 1 → b.take ps.length = ps) → Q (.ref (S.length + 3)) (S ++ dkC S.length ⟨a, b, [some (wh, h)]⟩)
  | _, _, _, _ => False
theorem len_law_area : ∀ ds S Q E, sp_law_area ds S Q E → ds.length = 4 := by
  intro ds S Q E h; unfold sp_law_area at h; split at h <;> first | rfl | exact h.elim
theorem len_law_disk : ∀ ds S Q E, sp_law_disk ds S Q E → ds.length = 5 := by
  intro ds S Q E h; unfold sp_law_disk at h; split at h <;> first | rfl | exact h.elim
abbrev n_law_area : List Str := ["cell", "k", "size", "things", "area", "place", "number", "key"]
def w_law_area : WS :=
  wsSeq (wsSet 4 (wLst [])) (wsSeq (wsForR1 (tN 5) (wVar 2) (wsSeq (wsSet 6 (wCall sp_law_mixed [wVar 0, wOp pAdd (wOp pAdd (wOp pMul (ret (.int 2)) (wVar 5)) (wVar 1)) (ret (.int 500))] [])) (wsSeq (wsSet 7 (wOp pSub (wOp pMod (wOp pDiv (wVar 6) (ret (.int 3))) (ret (.int 1000))) (ret (.int 500)))) (wsSeq (wsIf (wAnd (wOp pNe (wVar 3) (wLst [])) (wOp pEq (wOp pMod (wOp pDiv (wVar 6) (ret (.int 7))) (ret (.int 2))) (ret (.int 0)))) (wsSet 7 (wOp pSub (wOp pAdd (wOp pIx (wOp pIx (wVar 3) (wOp pMod (wOp pDiv (wVar 6) (ret (.int 14))) (wB bLen [wVar 3]))) (ret (.int 0))) (wOp pMod (wOp pDiv (wVar 6) (ret (.int 5))) (ret (.int 3)))) (ret (.int 1)))) (wsNil)) (wsExpr (wM "list" mAppend (wVar 4) [wOp pIx (wLst [wTup [], wTup [wVar 7, wOp pMod (wOp pDiv (wVar 6) (ret (.int 11))) (wOp pPow (ret (.int 10)) (ret (.int 6)))]]) (wB bInt [wOp pGt (wOp pMod (wVar 6) (ret (.int 3))) (ret (.int 0))])])))))) (wsRet (wVar 4)))

abbrev n_law_disk : List Str := ["bounds", "height", "which", "shelf", "cell", "things", "thing", "areas", "k"]
def w_law_disk : WS :=
  wsSeq (wsSet 5 (wComp [6] (tN 6) (wVar 3) (wOp pNe (wVar 6) (wTup [])) (wVar 6))) (wsSeq (wsSet 7 (wCompR1 [8] (tN 8) (ret (.int 2)) (wYes) (wCall sp_law_area [wVar 4, wVar 8, wOp pMul (wCall sp_law_two [wOp pIx (wVar 0) (ret (.int 0))] []) (wOp pIx (wVar 0) (ret (.int 1))), wVar 5] []))) (wsSeq (wsSub (wVar 7) (wVar 2) (wOp pAdd (wVar 3) (wSl (wOp pIx (wVar 7) (wVar 2)) (some (wB bLen [wVar 3])) none))) (wsRet (wLst [wOp pIx (wVar 7) (ret (.int 0)), wOp pIx (wVar 7) (ret (.int 1)), wLst [wTup [wVar 2, wVar 1]]]))))

theorem ob_law_area : Ob n_law_area sp_law_area w_law_area := by
  intro ds S Q E hS hd h
  unfold sp_law_area at h
  split at h
  · rename_i c k z n
    obtain ⟨ts, hn, ⟨hz0, hz1⟩, hq⟩ := h
    have hz4 : (2000 : Nat) ≤ sizeLine := by decide
    simp [w_law_area, startD]
    refine ⟨by omega, by omega, ?_⟩
    refine loop_range (S := S ++ [shp []]) (fun i ρ S' => ∃ ps G x y u, S' = S ++ shp ps :: G ∧ ρ = [some (.int c), some (.int k), some (.int z), some (.ref n), some (.ref S.length), x, y, u] ∧ ps.length = i) ⟨[], [], none, none, none, rfl, rfl, rfl⟩ ?_ ?_
    · rintro i ρ S' N hi ⟨ps, G, x, y, u, rfl, rfl, hl⟩ hN
      have fin : ∀ (p : Pl) G2 x y u, N [some (.int c), some (.int k), some (.int z), some (.ref n), some (.ref S.length), x, y, u] (S ++ Cell.lst (ps.map ePl.enc ++ [ePl.enc p]) :: G2) := fun p G2 x y u =>
        hN _ _ ⟨ps ++ [p], G2, x, y, u, by simp, rfl, by simp [hl]⟩
      simp [sp_law_mixed]
      intro m m0 m1
      refine ne_list eTh (xs := ts) (ys := []) (app_get hn) (by simp) ?_
      have last : ∀ (kk : Int) (G2 : Store), isT "list" (S ++ shp ps :: G2) (.ref S.length) ∧ ∃ x, atI [D.tup [], D.tup [.int kk, .int (m / 11 % 1000000)]] (if 0 < m % 3 then 1 else 0) = some x ∧ ps.length < sizeLine ∧
          N [some (.int c), some (.int k), some (.int z), some (.ref n), some (.ref S.length), some (.int i), some (.int m), some (.int kk)] (S ++ Cell.lst (ps.map ePl.enc ++ [x]) :: (G2 ++ [Cell.lst [D.tup [], D.tup [.int kk, .int (m / 11 % 1000000)]]])) := fun kk G2 => by
        refine ⟨isT_at, ?_⟩
        split
        · exact ⟨_, jx1, by omega, fin (some (kk, m / 11 % 1000000)) _ _ _ _⟩
        · exact ⟨_, jx0, by omega, fin none _ _ _ _⟩
      have last2 : ∀ kk : Int, _ := fun kk => last kk (G ++ [Cell.lst []])
      simp only [List.append_assoc, List.cons_append, List.nil_append] at last2
      simp
      split
      · exact last2 _
      · rename_i hne
        by_cases h7 : m / 7 % 2 = 0
        · refine .inr ⟨h7, ?_⟩
          have hpos : 0 < ts.length := List.length_pos_iff.mpr hne
          have n0 := Int.emod_nonneg (m / 14) (show (ts.length : Int) ≠ 0 by omega)
          have n1 := Int.emod_lt_of_pos (m / 14) (show (0 : Int) < ts.length by omega)
          have e := atI_lt (xs := ts.map eTh.enc) n0 (by simpa using n1)
          rw [List.getElem_map, enc_th] at e
          refine ⟨_, app_get hn, by simpa using hpos, _, app_get hn, _, by simpa using e, ?_⟩
          simp [jx0]
          exact last2 _
        · exact .inl ⟨h7, last2 _⟩
    · rintro ρ S' ⟨ps, G, x, y, u, rfl, rfl, hl⟩
      simp
      exact ret_list hS (fun i hi => by rw [List.getElem?_append_left hi]) get_at (Nat.le_refl _) (cls_map ePl _ _) (hq ps hl)
  · exact h.elim
theorem cutD_drop {α : Type} (f : α → D) (xs : List α) {a : Int} (ha : 0 ≤ a) : cutD (xs.map f) (some a) none = (xs.drop a.toNat).map f := by
  unfold cutD
  rw [HT.sIx_none, show a = ((a.toNat : Nat) : Int) by omega, HT.sIx_nat, Int.toNat_natCast]
  rw [List.take_of_length_le (by simp), ← List.map_drop]
  congr 1
  by_cases h : a.toNat ≤ xs.length
  · rw [List.length_map, Nat.min_eq_left h]
  · rw [List.length_map, Nat.min_eq_right (by omega), List.drop_of_length_le (Nat.le_refl _), List.drop_of_length_le (by omega)]
theorem at1 {S : Store} {a b : Cell} {G : Store} : (S ++ a :: b :: G)[S.length + 1]? = some b := by rw [List.getElem?_append_right (by omega), show S.length + 1 - S.length = 1 by omega]; rfl
theorem atn {S G : Store} (k : Nat) : (S ++ G)[S.length + k]? = G[k]? := by rw [List.getElem?_append_right (by omega), show S.length + k - S.length = k by omega]
theorem setn {S G : Store} (k : Nat) {c : Cell} : (S ++ G).set (S.length + k) c = S ++ G.set k c := by rw [List.set_append_right _ _ (by omega), show S.length + k - S.length = k by omega]
theorem ob_law_disk : Ob n_law_disk sp_law_disk w_law_disk := by
  intro ds S Q E hS hd h
  unfold sp_law_disk at h
  split at h
  · rename_i t w s h1 wh n c
    obtain ⟨ps, hn, g, hpl, hwh, hq⟩ := h
    obtain ⟨g1, g2, g3, g4, g5, g6⟩ := g
    have hz := size_le (h := t.toNat) (by omega) g3 (show w ≤ 1000 by omega)
    have hp16 : (2 : Int) ^ t.toNat * w ≤ 320 := by
      have : t = 0 ∨ t = 1 ∨ t = 2 ∨ t = 3 ∨ t = 4 := by omega
      rcases this with rfl | rfl | rfl | rfl | rfl <;> simp <;> omega
    have hz4 : (2000 : Nat) ≤ sizeLine := by decide
    simp [w_law_disk, startD, hn, atL]
    refine comp_full hn (by simp) ?_
    rw [rangeD_map]
    simp [List.range, List.range.loop, compG, sp_law_two, ix0, ix1, sp_law_area]
    refine ⟨by omega, mulR (by omega), ⟨_, rfl⟩, by omega, fun a ha => ⟨by omega, mulR (by omega), ⟨_, rfl⟩, by omega, fun b hb => ?_⟩⟩
    rcases hwh with rfl | rfl
    · refine ⟨_, jx0, _, app_get hn, ?_⟩
      simp [at1, cutD_drop]
      refine ⟨_, app_get hn, by simp; omega, [.ref (S.length + 1), .ref (S.length + 2)], (List.getElem?_eq_some_iff.mp (atn (S := S) 3)).2, 0, rfl, .ref (S.length + 5), rfl, .ref (S.length + 2), rfl, ?_⟩
      rw [setn 3]
      have get : ∀ k : Nat, ∀ G : Store, ((S ++ G) ++ [Cell.lst [D.tup [D.int 0, D.int h1]], Cell.lst [.ref (S.length + 5), .ref (S.length + 2), D.ref (S.length + 6)]])[S.length + k]? = (G ++ [Cell.lst [D.tup [D.int 0, D.int h1]], Cell.lst [.ref (S.length + 5), .ref (S.length + 2), D.ref (S.length + 6)]])[k]? := fun k G => by rw [List.append_assoc, atn]
      refine ret_disk (d := ⟨ps ++ a.drop ps.length, b, [some (0, h1)]⟩) (k := S.length + 7) (i := S.length + 5) (j := S.length + 2) (l := S.length + 6) hS (fun i hi => by rw [List.append_assoc, List.getElem?_append_left hi]) (by rw [get 7]; rfl) (by rw [get 5]; simp) (by rw [get 2]; simp) (by rw [get 6]; rfl) (by simp) (by simp) ?_
      refine hq _ _ ?_ ?_ ?_ ?_
      · first | omega | (simp; omega)
      · first | omega | (simp; omega)
      · simp
      · simp
    · refine ⟨_, jx1, _, app_get hn, ?_⟩
      simp [cutD_drop]
      refine ⟨_, app_get hn, by simp; omega, [.ref (S.length + 1), .ref (S.length + 2)], (List.getElem?_eq_some_iff.mp (atn (S := S) 3)).2, 1, rfl, .ref (S.length + 1), rfl, .ref (S.length + 5), rfl, ?_⟩
      rw [setn 3]
      have get : ∀ k : Nat, ∀ G : Store, ((S ++ G) ++ [Cell.lst [D.tup [D.int 1, D.int h1]], Cell.lst [.ref (S.length + 1), .ref (S.length + 5), D.ref (S.length + 6)]])[S.length + k]? = (G ++ [Cell.lst [D.tup [D.int 1, D.int h1]], Cell.lst [.ref (S.length + 1), .ref (S.length + 5), D.ref (S.length + 6)]])[k]? := fun k G => by rw [List.append_assoc, atn]
      refine ret_disk (d := ⟨a, ps ++ b.drop ps.length, [some (1, h1)]⟩) (k := S.length + 7) (i := S.length + 1) (j := S.length + 5) (l := S.length + 6) hS (fun i hi => by rw [List.append_assoc, List.getElem?_append_left hi]) (by rw [get 7]; rfl) (by rw [get 1]; simp) (by rw [get 5]; simp) (by rw [get 6]; rfl) (by simp) (by simp) ?_
      refine hq _ _ ?_ ?_ ?_ ?_
      · first | omega | (simp; omega)
      · first | omega | (simp; omega)
      · simp
      · simp
  · exact h.elim
def sp_blank_disk : SPf
  | [.tup [.int t, .int w, .int s]], S, Q, _ => (0 ≤ t ∧ t ≤ 10 ∧ 1 ≤ w ∧ w ≤ 90) ∧ Q (.ref (S.length + 3)) (S ++ dkC S.length ⟨List.replicate (2 ^ t.toNat * w).toNat none, List.replicate (2 ^ t.toNat * w).toNat none, [some (0, 0)]⟩)
  | _, _, _, _ => False
def sp_shelf_on : SPf
  | [.tup [.int _, .int w, .int _], .ref n], S, Q, _ => ∃ d wh h, DkAt S n d ∧ d.c = [some (wh, h)] ∧ (wh = 0 ∨ wh = 1) ∧ (0 ≤ h ∧ h ≤ 60 ∧ 1 ≤ w) ∧ Q (.ref S.length) (S ++ [shp ((if wh = 0 then d.a else d.b).take (2 ^ h.toNat * w).toNat)])
  | _, _, _, _ => False
theorem len_blank_disk : ∀ ds S Q E, sp_blank_disk ds S Q E → ds.length = 1 := by
  intro ds S Q E h; unfold sp_blank_disk at h; split at h <;> first | rfl | exact h.elim
theorem len_shelf_on : ∀ ds S Q E, sp_shelf_on ds S Q E → ds.length = 2 := by
  intro ds S Q E h; unfold sp_shelf_on at h; split at h <;> first | rfl | exact h.elim
abbrev n_blank_disk : List Str := ["bounds", "size", "place"]
def w_blank_disk : WS :=
  wsSeq (wsSet 1 (wCall sp_places_of [wVar 0, wOp pIx (wVar 0) (ret (.int 0))] [])) (wsRet (wLst [wCompR1 [2] (tN 2) (wVar 1) (wYes) (wTup []), wCompR1 [2] (tN 2) (wVar 1) (wYes) (wTup []), wLst [wTup [ret (.int 0), ret (.int 0)]]]))

abbrev n_shelf_on : List Str := ["bounds", "disk", "which", "height"]
def w_shelf_on : WS :=
  wsSeq (wsAsg (tT [2, 3]) (wOp pIx (wOp pIx (wVar 1) (ret (.int 2))) (ret (.int 0)))) (wsRet (wSl (wOp pIx (wVar 1) (wVar 2)) none (some (wCall sp_places_of [wVar 0, wVar 3] []))))

theorem cutD_takeE {α : Type} (f : α → D) (xs : List α) {b : Int} (hb : 0 ≤ b) : cutD (xs.map f) none (some b) = (xs.take b.toNat).map f := by
  have h := cutD_nat f xs (a := 0) (b := b) (by decide) hb
  simp only [Int.toNat_zero, List.drop_zero] at h
  rw [← h]
  unfold cutD
  rw [HT.sIx_none, show (0 : Int) = ((0 : Nat) : Int) from rfl, HT.sIx_nat]
  simp
theorem ob_blank_disk : Ob n_blank_disk sp_blank_disk w_blank_disk := by
  intro ds S Q E hS hd h
  unfold sp_blank_disk at h
  split at h
  · rename_i t w s
    obtain ⟨⟨h1, h2, h3, h4⟩, hq⟩ := h
    have hz := size_le (h := t.toNat) (by omega) h3 (show w ≤ 1000 by omega)
    have hp10 := pow10 t.toNat (by omega)
    have hz2 : (2 : Int) ^ t.toNat * w ≤ 1024 * 90 := Int.mul_le_mul hp10.2 h4 (by omega) (by omega)
    have e0 : ∀ k, (List.range k).map (fun _ : Nat => D.tup []) = (List.replicate k (none : Pl)).map ePl.enc := fun k => by
      simp [List.map_const']
    simp [w_blank_disk, startD, sp_places_of, ix0]
    refine ⟨by omega, by omega, by omega, comp_rangeY (fun _ => .tup []) (fun k hk N hN => by simpa using hN) ?_⟩
    rw [e0]
    refine ⟨by omega, by omega, comp_rangeY (fun _ => .tup []) (fun k hk N hN => by simpa using hN) ?_⟩
    rw [e0]
    refine ret_any ?_
    simpa [dkC, shp] using hq
  · exact h.elim
theorem jx00 {a : D} : atI [a] 0 = some a := rfl
theorem ob_shelf_on : Ob n_shelf_on sp_shelf_on w_shelf_on := by
  intro ds S Q E hS hd h
  unfold sp_shelf_on at h
  split at h
  · rename_i t w s n
    obtain ⟨d, wh, h1, ⟨x, y, z, p1, p2, p3, p4⟩, hc, hwh, ⟨h2, h3, h4⟩, hq⟩ := h
    rw [hc] at p4
    simp [w_shelf_on, startD, p1, sp_places_of]
    refine ⟨_, ix_three.2.2, ?_⟩
    simp [p4, jx00, setAll, p1]
    have two := two_pow_le h1.toNat (by omega)
    have hsz : 0 ≤ 2 ^ h1.toNat * w := Int.mul_nonneg (by omega) (by omega)
    rcases hwh with rfl | rfl
    · refine ⟨_, ix_three.1, by omega, ?_⟩
      simp [p2]
      rw [cutD_takeE _ _ hsz]
      exact ret_any (by simpa [shp] using hq)
    · refine ⟨_, ix_three.2.1, by omega, ?_⟩
      simp [p3]
      rw [cutD_takeE _ _ hsz]
      exact ret_any (by simpa [shp] using hq)
  · exact h.elim
/-- so many things on a straight shelf of h -/
def sp_law_filled : SPf
  | [.tup [.int t, .int w, .int s], .int h, .int _, .int m], S, Q, _ => (0 ≤ h ∧ h ≤ 4 ∧ 1 ≤ w ∧ w ≤ 20) ∧ ∀ ps : List Pl, ps.length = 2 ^ h.toNat * w.toNat → Straight ps → ((things ps).length : Int) = min (max 0 m) (2 ^ h.toNat * w) → Q (.ref S.length) (S ++ [shp ps])
  | _, _, _, _ => False
theorem len_law_filled : ∀ ds S Q E, sp_law_filled ds S Q E → ds.length = 4 := by
  intro ds S Q E h; unfold sp_law_filled at h; split at h <;> first | rfl | exact h.elim
abbrev n_law_filled : List Str := ["bounds", "height", "cell", "many", "size", "left", "shelf", "place", "k", "amount"]
def w_law_filled_r1 : WS :=
  wsSeq (wsSet 6 (wCompR1 [7] (tN 7) (wVar 4) (wYes) (wTup []))) (wsSeq (wsForR1 (tN 8) (wB bLen [wVar 5]) (wsSeq (wsSet 9 (wOp pSub (wOp pMod (wCall sp_law_mixed [wVar 2, wVar 8] []) (wOp pIx (wLst [wOp pPow (ret (.int 10)) (ret (.int 9)), ret (.int 3)]) (wOp pMod (wVar 8) (ret (.int 2))))) (ret (.int 1)))) (wsSub (wVar 6) (wOp pIx (wVar 5) (wVar 8)) (wTup [wOp pSub (wOp pMul (wOp pMul (ret (.int 3)) (wVar 8)) (wOp pIx (wLst [ret (.int 1), wOp pPow (ret (.int 10)) (ret (.int 40))]) (wOp pMod (wVar 2) (ret (.int 2))))) (wOp pMod (wVar 2) (wOp pPow (ret (.int 10)) (ret (.int 57)))), wVar 9])))) (wsRet (wVar 6)))
def w_law_filled : WS :=
  wsSeq (wsSet 4 (wOp pMul (wCall sp_law_two [wVar 1] []) (wOp pIx (wVar 0) (ret (.int 1))))) (wsSeq (wsSet 5 (wLRange (wVar 4))) (wsSeq (wsWhile (wOp pGt (wB bLen [wVar 5]) (wB bMax [ret (.int 0), wVar 3])) (wsExpr (wM "list" mPopAt (wVar 5) [wOp pMod (wOp pDiv (wCall sp_law_mixed [wVar 2, wB bLen [wVar 5]] []) (ret (.int 7))) (wB bLen [wVar 5])]))) (w_law_filled_r1)))

theorem seqIxD {i : Int} {n : Nat} (h0 : 0 ≤ i) (h1 : i < n) : seqIndex? i n = some i.toNat := by
  unfold seqIndex?
  simp only [show ¬ i < 0 by omega, if_false, h0, h1, decide_true, Bool.and_self, if_true]
theorem at1F {S : Store} {a b : Cell} {G : Store} : (S ++ a :: b :: G)[S.length + 1]? = some b := at1
theorem on_none (n : Nat) : On [] (List.replicate n (none : Pl)) := ⟨fun c hc => by simp at hc, fun x hx _ => by rw [List.getElem?_replicate]; simp at hx; simp [hx], List.Pairwise.nil⟩
theorem ob_law_filled : Ob n_law_filled sp_law_filled w_law_filled := by
  intro ds S Q E hS hd h
  unfold sp_law_filled at h
  split at h
  · rename_i t w s h c m
    obtain ⟨⟨h0, h1, h2, h3⟩, hq⟩ := h
    have hsz := size_le (h := h.toNat) (by omega) h2 (show w ≤ 1000 by omega)
    have hp10 := pow10 h.toNat (by omega)
    have hz2 : (2 : Int) ^ h.toNat * w ≤ 1024 * 20 := Int.mul_le_mul hp10.2 h3 (by omega) (by omega)
    have hz4 : (100000 : Nat) ≤ sizeLine := by decide
    have hlen : (2 ^ h.toNat * w.toNat : Nat) = (2 ^ h.toNat * w).toNat := by
      have : ((2 ^ h.toNat * w.toNat : Nat) : Int) = 2 ^ h.toNat * w := by
        rw [Int.natCast_mul, Int.toNat_of_nonneg (by omega)]; simp
      omega
    simp [w_law_filled, startD, sp_law_two, ix1]
    refine ⟨by omega, mulL (by omega), by omega, by omega, ?_⟩
    generalize hz : (2 : Int) ^ h.toNat * w = z at *
    refine loop_while (fun k ρ S' => ∃ al : List Nat, k = al.length ∧ min (max 0 m) z ≤ al.length ∧ (al.length : Int) ≤ z ∧ al.Pairwise (· < ·) ∧ (∀ x ∈ al, (x : Int) < z) ∧ S' = S ++ [.lst (al.map fun i : Nat => D.int i)] ∧ ρ = [some (bnd t w s), some (.int h), some (.int c), some (.int m), some (.int z), some (.ref S.length), none, none, none, none]) z.toNat ?_ ?_
    · refine ⟨List.range z.toNat, by simp, by simp; omega, by simp; omega, List.pairwise_lt_range, fun x hx => by simp at hx; omega, ?_, rfl⟩
      rw [rangeD_map]; simp
    · rintro k ρ S' N ⟨al, rfl, hm, hmz, hr, hb, rfl, rfl⟩ hN
      simp
      by_cases hlt : (if 0 < m then m else 0) < (al.length : Int)
      · refine .inr ⟨hlt, isT_at, ?_⟩
        simp [sp_law_mixed]
        intro x x0 x1
        have hpos : 0 < al.length := by split at hlt <;> omega
        have n0 := Int.emod_nonneg (x / 7) (show (al.length : Int) ≠ 0 by omega)
        have n1 := Int.emod_lt_of_pos (x / 7) (show (0 : Int) < al.length by omega)
        have hk : (x / 7 % (al.length : Int)).toNat < al.length := by omega
        refine ⟨hpos, by omega, by omega, .int (al[(x / 7 % (al.length : Int)).toNat]'hk), (x / 7 % (al.length : Int)).toNat, seqIxD n0 n1, ⟨_, List.getElem?_eq_getElem hk, rfl⟩, ?_⟩
        refine hN (al.length - 1) _ _ (by omega) ⟨al.eraseIdx (x / 7 % (al.length : Int)).toNat, ?_, ?_, ?_, ?_, ?_, ?_, rfl⟩
        · rw [List.length_eraseIdx, if_pos hk]
        · rw [List.length_eraseIdx, if_pos hk]; split at hlt <;> omega
        · rw [List.length_eraseIdx, if_pos hk]; omega
        · exact hr.sublist (List.eraseIdx_sublist _ _)
        · exact fun y hy => hb y (List.mem_of_mem_eraseIdx hy)
        · rw [List.eraseIdx_eq_take_drop_succ, List.eraseIdx_eq_take_drop_succ, List.map_append, List.map_take, List.map_drop]
      · refine .inl ⟨by omega, ?_⟩
        have hal : (al.length : Int) = min (max 0 m) z := by split at hlt <;> omega
        simp [w_law_filled_r1]
        refine ⟨by omega, by omega, comp_rangeY (fun _ => .tup []) (fun k hk N hN => by simpa using hN) ?_⟩
        rw [show (List.range z.toNat).map (fun _ : Nat => D.tup []) = (List.replicate z.toNat (none : Pl)).map ePl.enc by simp [List.map_const']]
        obtain ⟨dB, hdB, B, rfl, hB⟩ := atI_mem (xs := [D.int 1, D.int 10000000000000000000000000000000000000000]) (i := c % 2) (P := fun d => ∃ t : Int, d = .int t ∧ 1 ≤ t ∧ t ≤ 10000000000000000000000000000000000000000) (by omega) (by simp; omega) (by simp)
        simp
        refine ⟨by omega, ?_⟩
        refine loop_range (fun i ρ S' => ∃ ps G cs k am, S' = S ++ .lst (al.map fun i : Nat => D.int i) :: shp ps :: G ∧ ps.length = z.toNat ∧ On cs ps ∧ cs.length = i ∧ (∀ j (hj : j < cs.length) (hj2 : j < al.length), cs[j].1 = al[j] ∧ cs[j].2.1 = 3 * j * B - c % 1000000000000000000000000000000000000000000000000000000000) ∧
          ρ = [some (bnd t w s), some (.int h), some (.int c), some (.int m), some (.int z), some (.ref S.length), some (.ref (S.length + 1)), none, k, am]) ⟨List.replicate z.toNat none, [], [], none, none, by simp, by simp, on_none _, rfl, fun j hj => by simp at hj, by simp⟩ ?_ ?_
        · rintro i ρ S' N hi ⟨ps, G, cs, k, am, rfl, hpl, hon, hcl, hcs, rfl⟩ hN
          have hil : i < al.length := hi
          have ei : atI (al.map fun i : Nat => D.int i) (i : Nat) = some (.int al[i]) := by rw [atI_lt (by omega) (by simp; omega)]; simp
          have hbi := hb al[i] (List.getElem_mem _)
          have fin : ∀ (am : Int) G2, N [some (bnd t w s), some (.int h), some (.int c), some (.int m), some (.int z), some (.ref S.length), some (.ref (S.length + 1)), none, some (.int i), some (.int am)] (S ++ .lst (al.map fun i : Nat => D.int i) :: shp (ps.set al[i] (some (3 * i * B - c % 1000000000000000000000000000000000000000000000000000000000, am))) :: G2) := fun am G2 => by
            have hlt : ∀ x ∈ cs, x.1 < al[i] := fun x hx => by
              obtain ⟨j, hj, e⟩ := List.mem_iff_getElem.mp hx
              rw [← e, (hcs j hj (by omega)).1]
              exact List.pairwise_iff_getElem.mp hr j i (by omega) hil (by omega)
            refine hN _ _ ⟨_, G2, cs ++ [(al[i], (3 * i * B - c % 1000000000000000000000000000000000000000000000000000000000, am))], _, _, rfl, by simpa using hpl, hon.lay (by omega) (fun x hx => by have := hlt x hx; omega) (Srt.app.mpr ⟨hon.srt, by simp [Srt], fun x hx y hy => by simp at hy; subst hy; exact hlt x hx⟩) (fun x => by simp), by simp [hcl], fun j hj hj2 => ?_, rfl⟩
            by_cases hji : j < cs.length
            · rw [List.getElem_append_left hji]; exact hcs j hji hj2
            · have : j = i := by simp at hj; omega
              subst this
              rw [List.getElem_append_right (by omega)]
              simp
          simp [sp_law_mixed, at1, get_at, ei, hdB]
          intro n n0 n1
          refine atI_mem (P := fun d => _) (by omega) (by simp; omega) ?_
          intro x hx
          obtain ⟨v, rfl, hv⟩ : ∃ v : Int, x = .int v ∧ 0 < v := by
            simp at hx
            rcases hx with rfl | rfl <;> exact ⟨_, rfl, by decide⟩
          simp [at1, get_at, ei, hv]
          refine ⟨mulL (by omega), al[i], by rw [ixN_ok (by omega) (by omega)]; simp, ?_⟩
          rw [show D.tup [D.int (3 * (i : Int) * B - c % 1000000000000000000000000000000000000000000000000000000000), D.int (n % v - 1)] = ePl.enc (some (3 * (i : Int) * B - c % 1000000000000000000000000000000000000000000000000000000000, n % v - 1)) from rfl, map_set]
          exact fin _ _
        · rintro ρ S' ⟨ps, G, cs, k, am, rfl, hpl, hon, hcl, hcs, rfl⟩
          simp
          have hth := hon.things
          refine ret_list hS (fun i hi => by rw [List.getElem?_append_left hi]) at1 (by omega) (cls_map ePl _ _) (hq ps (by omega) ?_ ?_)
          · unfold Straight
            rw [hth, List.pairwise_map, List.pairwise_iff_getElem]
            intro a b ha hb2 hab
            have ca := (hcs a ha (by omega)).2
            have cb := (hcs b hb2 (by omega)).2
            rw [ca, cb]
            have := Int.mul_lt_mul_of_pos_right (show (3 * (a : Int)) < 3 * b by omega) (show 0 < B by omega)
            omega
          · rw [hth, List.length_map, hcl]
            exact hal
  · exact h.elim
def Ris (al : List Int) : Prop := al.Pairwise fun a b => a < b
def sp_law_rows : SPf
  | [.ref n], S, Q, _ => ∃ ps, S[n]? = some (shp ps) ∧ ps.length ≤ 50000 ∧ Q (.ref S.length) (S ++ [thp (rowsT (things ps))])
  | _, _, _, _ => False
def sp_law_sound : SPf
  | [.ref n], S, Q, _ => ∃ ps, S[n]? = some (shp ps) ∧ ps.length ≤ 50000 ∧ Rises (rowsT (things ps)) ∧ (things ps).length ≤ (rowsT (things ps)).length + 1 ∧ Q (.bl true) S
  | _, _, _, _ => False
theorem len_law_rows : ∀ ds S Q E, sp_law_rows ds S Q E → ds.length = 1 := by
  intro ds S Q E h; unfold sp_law_rows at h; split at h <;> first | rfl | exact h.elim
theorem len_law_sound : ∀ ds S Q E, sp_law_sound ds S Q E → ds.length = 1 := by
  intro ds S Q E h; unfold sp_law_sound at h; split at h <;> first | rfl | exact h.elim
abbrev n_law_rows : List Str := ["shelf", "rows", "thing"]
def w_law_rows : WS :=
  wsSeq (wsSet 1 (wLst [])) (wsSeq (wsFor (tN 2) (wVar 0) (wsIf (wAnd (wOp pNe (wVar 2) (wTup [])) (wOr (wOp pEq (wVar 1) (wLst [])) (wOp pNe (wOp pIx (wVar 1) (wOp1 pNeg (ret (.int 1)))) (wVar 2)))) (wsExpr (wM "list" mAppend (wVar 1) [wVar 2])) (wsNil))) (wsRet (wVar 1)))
abbrev n_law_sound : List Str := ["shelf", "rows", "k", "thing"]
def w_law_sound : WS :=
  wsSeq (wsSet 1 (wCall sp_law_rows [wVar 0] [])) (wsSeq (wsForR2 (tN 2) (ret (.int 1)) (wB bLen [wVar 1]) (wsIf (wOp pLe (wOp pIx (wOp pIx (wVar 1) (wVar 2)) (ret (.int 0))) (wOp pIx (wOp pIx (wVar 1) (wOp pSub (wVar 2) (ret (.int 1)))) (ret (.int 0)))) (wsRet (ret (.bl false))) (wsNil))) (wsRet (wOp pLe (wB bLen [wComp [3] (tN 3) (wVar 0) (wOp pNe (wVar 3) (wTup [])) (wVar 3)]) (wOp pAdd (wB bLen [wVar 1]) (ret (.int 1))))))
theorem rowsS_len (acc : List Th) (t : Th) : (rowsS acc t).length ≤ acc.length + 1 := by unfold rowsS; split <;> simp
theorem rowsT_le (ts : List Th) : (rowsT ts).length ≤ ts.length := by
  have : ∀ l acc : List Th, (l.foldl rowsS acc).length ≤ acc.length + l.length := fun l => by
    induction l with
    | nil => intro acc; simp
    | cons t l ih =>
      intro acc
      have h1 := ih (rowsS acc t)
      have h2 := rowsS_len acc t
      simp at h1 ⊢; omega
  simpa [rowsT] using this ts []
theorem th_last {ts : List Th} {t : Th} (h : ts.getLast? = some t) : atI (ts.map eTh.enc) (-1) = some (.tup [.int t.1, .int t.2]) := by
  rw [List.getLast?_eq_getElem?] at h
  obtain ⟨hl, e⟩ := List.getElem?_eq_some_iff.mp h
  rw [atI_last (by simp; omega)]
  simp [e]
theorem ob_law_rows : Ob n_law_rows sp_law_rows w_law_rows := by
  intro ds S Q E hS hd h
  unfold sp_law_rows at h
  split at h
  · rename_i n
    obtain ⟨ps, hn, hl, hq⟩ := h
    have hz4 : (200000 : Nat) ≤ sizeLine := by decide
    simp [w_law_rows, startD]
    refine ⟨_, app_get hn, loop_list (S := S ++ [thp []]) (fun i ρ S' => ∃ G, S' = S ++ thp (rowsT (things (ps.take i))) :: G ∧ ∃ x, ρ = [some (.ref n), some (.ref S.length), x]) ⟨[], rfl, none, rfl⟩ (fun i ρ S' ⟨G, h, _⟩ => by rw [h]; exact app_get hn) ?_ ?_⟩
    · rintro i x ρ S' N hx ⟨G, rfl, y, rfl⟩ hN
      have hi : i < ps.length := by simpa using (List.getElem?_eq_some_iff.mp hx).1
      rw [List.getElem?_map, List.getElem?_eq_getElem hi] at hx
      simp only [Option.map_some, Option.some.injEq] at hx
      subst hx
      have tn := take_next hi
      have fin : ∀ ts' G2 x, ts' = rowsT (things (ps.take (i + 1))) → N [some (.ref n), some (.ref S.length), x] (S ++ thp ts' :: G2) := fun ts' G2 x e => e ▸ hN _ _ ⟨G2, rfl, x, rfl⟩
      cases e2 : ps[i] with
      | none =>
        rw [e2] at tn
        simp
        exact fin _ _ _ (by rw [tn, things_app, things_none, List.append_nil])
      | some t =>
        rw [e2] at tn
        have et : rowsT (things (ps.take (i + 1))) = rowsS (rowsT (things (ps.take i))) t := by rw [tn, things_app, things_some, rowsT_snoc]
        have hlen : (rowsT (things (ps.take i))).length ≤ 50000 := by
          have h1 := rowsT_le (things (ps.take i))
          have h2 := things_le (ps.take i)
          simp at h2; omega
        generalize rowsT (things (ps.take i)) = rw' at *
        have app : ∀ G2, rw'.getLast? ≠ some t → isT "list" (S ++ thp rw' :: G2) (D.ref S.length) ∧ rw'.length < sizeLine ∧ N [some (.ref n), some (.ref S.length), some (.tup [.int t.1, .int t.2])] (S ++ Cell.lst (rw'.map eTh.enc ++ [.tup [.int t.1, .int t.2]]) :: G2) := fun G2 hne => by
          refine ⟨isT_at, by omega, ?_⟩
          have := fin (rw' ++ [t]) G2 (some (.tup [.int t.1, .int t.2])) (by rw [et]; unfold rowsS; rw [if_neg hne])
          simpa [thp] using this
        simp
        refine eq_list eTh (xs := rw') (ys := []) (by simp) (by simp) ?_
        simp
        split
        · rename_i hnil
          exact app _ (by rw [hnil]; simp)
        · rename_i hnil
          obtain ⟨u, hu⟩ : ∃ u, rw'.getLast? = some u := ⟨_, List.getLast?_eq_some_getLast hnil⟩
          refine ⟨_, th_last hu, ne_en eTh (x := u) (y := t) ?_⟩
          by_cases hut : u = t
          · subst hut
            simp
            exact fin _ _ _ (by rw [et]; unfold rowsS; rw [if_pos hu])
          · simp [hut]
            exact app _ (by rw [hu]; simpa using hut)
    · rintro ρ S' ⟨G, rfl, y, rfl⟩
      simp
      exact ret_list hS (fun i hi => by rw [List.getElem?_append_left hi]) get_at (Nat.le_refl _) (cls_map eTh _ _) (by simpa using hq)
  · exact h.elim
theorem ob_law_sound : Ob n_law_sound sp_law_sound w_law_sound := by
  intro ds S Q E hS hd h
  unfold sp_law_sound at h
  split at h
  · rename_i n
    obtain ⟨ps, hn, hl, hr, hc, hq⟩ := h
    have hrl := rowsT_le (things ps)
    have htl := things_le ps
    simp [w_law_sound, startD, sp_law_rows, hn, e_forR2]
    refine ⟨ps, rfl, by omega, by omega, ?_⟩
    generalize rowsT (things ps) = ts at *
    refine loop_range (fun i ρ S' => S' = S ++ [thp ts] ∧ ∃ x, ρ = [some (.ref n), some (.ref S.length), x, none]) ⟨rfl, none, rfl⟩ ?_ ?_
    · rintro i ρ S' N hi ⟨rfl, x, rfl⟩ hN
      have e0 := th_at (ts := ts) (i := i) (by omega)
      have e1 := th_at (ts := ts) (i := i + 1) (by omega)
      have e2 : (1 : Int) + i = ((i + 1 : Nat) : Int) := by omega
      have e3 : ((i + 1 : Nat) : Int) - 1 = (i : Nat) := by omega
      simp only [e2]
      simp [-Int.natCast_add, e3, e0, e1, jx0]
      exact .inl ⟨rises_at hr i (by omega), hN _ _ ⟨rfl, _, rfl⟩⟩
    · rintro ρ S' ⟨rfl, x, rfl⟩
      simp
      refine ⟨_, app_get hn, comp_full (app_get hn) (by simp) ?_⟩
      simp
      have : decide ((things ps).length ≤ ts.length + 1) = true := decide_eq_true hc
      have hc' : ((things ps).length : Int) ≤ (ts.length : Int) + 1 := by omega
      rw [decide_eq_true hc']
      exact ret_pure hS (by simp only [Cl]) hq
  · exact h.elim
theorem seqIx {i : Int} {n : Nat} (h0 : 0 ≤ i) (h1 : i < n) : seqIndex? i n = some i.toNat := by
  unfold seqIndex?
  simp only [show ¬ i < 0 by omega, if_false, h0, h1, decide_true, Bool.and_self, if_true]
theorem set1 {S : Store} {a b c : Cell} {G : Store} : (S ++ a :: b :: G).set (S.length + 1) c = S ++ a :: c :: G := by rw [List.set_append_right _ _ (by omega), show S.length + 1 - S.length = 1 by omega]; rfl
theorem at2 {S : Store} {a b c : Cell} {G : Store} : (S ++ a :: b :: c :: G)[S.length + 1 + 1]? = some c := by rw [List.getElem?_append_right (by omega), show S.length + 1 + 1 - S.length = 2 by omega]; rfl
theorem at3 {S : Store} {a b c d : Cell} {G : Store} : (S ++ a :: b :: c :: d :: G)[S.length + 3]? = some d := by rw [List.getElem?_append_right (by omega), show S.length + 3 - S.length = 3 by omega]; rfl
theorem fm_range {α β : Type} (xs : List α) (h : α → Option β) : ∀ n, n ≤ xs.length → (List.range n).filterMap (fun i => xs[i]?.bind h) = (xs.take n).filterMap h
  | 0, _ => by simp
  | n + 1, hn => by
    have e : [n].filterMap (fun i => xs[i]?.bind h) = [xs[n]'(by omega)].filterMap h := by
      simp only [List.filterMap_cons, List.filterMap_nil, List.getElem?_eq_getElem (show n < xs.length by omega), Option.bind_some]
    rw [List.range_succ, List.filterMap_append, fm_range xs h n (by omega), take_next (show n < xs.length by omega), List.filterMap_append, e]
def thg (ps : List Pl) (p : Nat) : Th := (plAt ps p).getD (0, 0)
theorem fullN_at {ps : List Pl} {p : Nat} (h : p ∈ fullN ps) : plAt ps p = some (thg ps p) ∧ ps[p]? = some (some (thg ps p)) := by
  unfold fullN at h
  have h2 := (List.mem_filter.mp h).2
  unfold fullAt at h2
  split at h2
  · rename_i u hu
    have e : plAt ps p = some u := by simp [plAt, List.getD, hu]
    have e2 : thg ps p = u := by simp [thg, e]
    rw [e2]; exact ⟨e, hu⟩
  · cases h2
theorem movesF_in {prs : List Mv} {x : Mv} (h : x ∈ movesF prs) : x ∈ prs := by
  unfold movesF at h
  rcases List.mem_append.mp h with h | h
  · exact (List.mem_filter.mp (List.mem_reverse.mp h)).1
  · exact (List.mem_filter.mp h).1
theorem movesF_len (prs : List Mv) : (movesF prs).length ≤ 2 * prs.length := by
  unfold movesF
  rw [List.length_append, List.length_reverse]
  have h1 := List.length_filter_le (fun x : Mv => decide (x.1 < x.2)) prs
  have h2 := List.length_filter_le (fun x : Mv => decide (x.2 < x.1)) prs
  omega
/-! ### moves, with what is cleared told -/
def Safe2 (ts : List Th) : List Wr → List Pl → (List Pl → Prop) → Prop
  | [], s, F => F s
  | w :: ws, s, F => (w.2 ≠ none → s[w.1.toNat]? = some none) ∧ (w.2 = none → ∃ l t r, ts = l ++ t :: r ∧ things s = l ++ t :: t :: r ∧ s[w.1.toNat]? = some (some t)) ∧ (0 ≤ w.1 ∧ w.1 < s.length) ∧ RowsOk ts (s.set w.1.toNat w.2) ∧ Safe2 ts ws (s.set w.1.toNat w.2) F
theorem Safe2.app {ts : List Th} : ∀ {a b : List Wr} {s : List Pl} {F : List Pl → Prop}, Safe2 ts a s (fun s' => Safe2 ts b s' F) → Safe2 ts (a ++ b) s F
  | [], _, _, _, h => h
  | w :: a, b, s, F, h => ⟨h.1, h.2.1, h.2.2.1, h.2.2.2.1, Safe2.app h.2.2.2.2⟩
theorem Safe2.imp {ts : List Th} : ∀ {a : List Wr} {s : List Pl} {F G : List Pl → Prop}, (∀ s, F s → G s) → Safe2 ts a s F → Safe2 ts a s G
  | [], _, _, _, k, h => k _ h
  | w :: a, s, F, G, k, h => ⟨h.1, h.2.1, h.2.2.1, h.2.2.2.1, Safe2.imp k h.2.2.2.2⟩
theorem Safe2.move {L R : Cs} {x y : Nat} {t : Th} {s : List Pl} {F : List Pl → Prop} {ws : List Wr} (h : On (L ++ (x, t) :: R) s) (hs : Srt (L ++ (y, t) :: R)) (hy : y < s.length) (hxy : x ≠ y)
    (k : ∀ s', On (L ++ (y, t) :: R) s' → s'.length = s.length → Safe2 (L.map (·.2) ++ t :: R.map (·.2)) ws s' F) : Safe2 (L.map (·.2) ++ t :: R.map (·.2)) (((y : Int), some t) :: ((x : Int), none) :: ws) s F := by
  have hx := h.lt (c := (x, t)) (by simp)
  obtain ⟨a1, a2, a3⟩ := Srt.app.mp h.srt
  obtain ⟨b1, b2, b3⟩ := Srt.app.mp hs
  obtain ⟨a4, a5⟩ := Srt.cons.mp a2
  obtain ⟨b4, b5⟩ := Srt.cons.mp b2
  have hny : ∀ c ∈ L ++ (x, t) :: R, c.1 ≠ y := fun c hc => by
    rcases List.mem_append.mp hc with hc | hc
    · have := b3 c hc (y, t) (by simp); simp at this; omega
    · rcases List.mem_cons.mp hc with rfl | hc
      · exact hxy
      · have := b4 c hc; simp at this; omega
  have hLx : ∀ c ∈ L, c.1 ≠ x := fun c hc => by have := a3 c hc (x, t) (by simp); simp at this; omega
  have hRx : ∀ c ∈ R, c.1 ≠ x := fun c hc => by have := a4 c hc; simp at this; omega
  have both : ∃ cs' : Cs, On cs' (s.set y (some t)) ∧ cs'.map (·.2) = L.map (·.2) ++ t :: t :: R.map (·.2) ∧ ∀ c, c ∈ cs' ↔ c ∈ L ++ (x, t) :: R ∨ c = (y, t) := by
    rcases Nat.lt_or_ge x y with hlt | hge
    · refine ⟨L ++ (x, t) :: (y, t) :: R, ?_, by simp, ?_⟩
      · refine h.lay hy hny (Srt.app.mpr ⟨a1, Srt.cons.mpr ⟨fun c hc => ?_, b2⟩, fun c hc d hd => ?_⟩) ?_
        · rcases List.mem_cons.mp hc with rfl | hc
          · exact hlt
          · exact a4 c hc
        · rcases List.mem_cons.mp hd with rfl | hd
          · exact a3 c hc _ (by simp)
          · exact b3 c hc d hd
        · intro c; simp only [List.mem_append, List.mem_cons, or_assoc, or_left_comm, or_comm]
      · intro c; simp only [List.mem_append, List.mem_cons, or_assoc, or_left_comm, or_comm]
    · refine ⟨L ++ (y, t) :: (x, t) :: R, ?_, by simp, ?_⟩
      · refine h.lay hy hny (Srt.app.mpr ⟨a1, Srt.cons.mpr ⟨fun c hc => ?_, a2⟩, fun c hc d hd => ?_⟩) ?_
        · rcases List.mem_cons.mp hc with rfl | hc
          · show y < x; omega
          · exact b4 c hc
        · rcases List.mem_cons.mp hd with rfl | hd
          · exact b3 c hc _ (by simp)
          · exact a3 c hc d hd
        · intro c; simp only [List.mem_append, List.mem_cons, or_assoc, or_left_comm, or_comm]
      · intro c; simp only [List.mem_append, List.mem_cons, or_assoc, or_left_comm, or_comm]
  obtain ⟨cs', o1, e1, m1⟩ := both
  have o2 : On (L ++ (y, t) :: R) ((s.set y (some t)).set x none) := o1.clear (by simpa using hx) hs fun c => by
    rw [m1]
    simp only [List.mem_append, List.mem_cons]
    constructor
    · rintro (h | h | h)
      · exact ⟨.inl (.inl h), hLx c h⟩
      · exact ⟨.inr h, by rw [h]; exact fun e => hxy e.symm⟩
      · exact ⟨.inl (.inr (.inr h)), hRx c h⟩
    · rintro ⟨(h | h | h) | h, h2⟩
      · exact .inl h
      · exact absurd (by rw [h]) h2
      · exact .inr (.inr h)
      · exact .inr (.inl h)
  refine ⟨fun _ => ?_, fun hc => by simp at hc, ⟨by simp, by simpa using hy⟩, .inr ⟨L.map (·.2), t, R.map (·.2), rfl, ?_⟩, fun hc => absurd rfl hc, fun _ => ⟨L.map (·.2), t, R.map (·.2), rfl, ?_, ?_⟩, ⟨by simp, by simpa using hx⟩, .inl ?_, ?_⟩
  · simp only [Int.toNat_natCast]
    exact h.no y hy fun c hc => by simpa using hny c hc
  · simp only [Int.toNat_natCast]; rw [o1.things, e1]
  · simp only [Int.toNat_natCast]; rw [o1.things, e1]
  · simp only [Int.toNat_natCast]
    have := (o1.at' (x, t) ((m1 _).mpr (.inl (by simp)))).2
    simpa using this
  · simp only [Int.toNat_natCast]; rw [o2.things]; simp
  · simp only [Int.toNat_natCast]; exact k _ o2 (by simp)
theorem phase1b {ts : List Th} {ws : List Wr} {F : List Pl → Prop} : ∀ (U : List Tr) (R : Cs) (s : List Pl), On (trP U.reverse ++ R) s → Srt (trM U.reverse ++ R) → (∀ x ∈ U, x.2.1 < s.length) → ts = trT U.reverse ++ R.map (·.2) →
    (∀ s', On (trM U.reverse ++ R) s' → s'.length = s.length → Safe2 ts ws s' F) → Safe2 ts ((U.filter onw).flatMap trW ++ ws) s F
  | [], R, s, h, hs, hb, ht, k => k s (by simpa [trM, trP] using h) rfl
  | x :: U, R, s, h, hs, hb, ht, k => by
    obtain ⟨p, a, t⟩ := x
    have e1 : trP (((p, a, t) : Tr) :: U).reverse ++ R = trP U.reverse ++ (p, t) :: R := by simp [trP]
    have e2 : trM (((p, a, t) : Tr) :: U).reverse ++ R = trM U.reverse ++ (max p a, t) :: R := by simp [trM]
    have e3 : trT (((p, a, t) : Tr) :: U).reverse ++ R.map (·.2) = trT U.reverse ++ t :: R.map (·.2) := by simp [trT]
    rw [e1] at h
    rw [e2] at hs k
    rw [e3] at ht
    have ha := hb (p, a, t) (by simp)
    have hb' : ∀ x ∈ U, x.2.1 < s.length := fun x hx => hb x (by simp [hx])
    by_cases hpa : p < a
    · have hm : max p a = a := Nat.max_eq_right (by omega)
      rw [hm] at hs k
      have hf : (((p, a, t) : Tr) :: U).filter onw = (p, a, t) :: U.filter onw := by simp [onw, hpa]
      rw [hf]
      have hts : ts = (trP U.reverse).map (·.2) ++ t :: R.map (·.2) := by rw [ht]; simp [trP, trT]
      obtain ⟨a1, a2, a3⟩ := Srt.app.mp h.srt
      obtain ⟨b1, b2, b3⟩ := Srt.app.mp hs
      obtain ⟨b4, b5⟩ := Srt.cons.mp b2
      have hsrt : Srt (trP U.reverse ++ (a, t) :: R) := Srt.app.mpr ⟨a1, b2, fun c hc d hd => by
        have := a3 c hc (p, t) (by simp)
        rcases List.mem_cons.mp hd with rfl | hd
        · simp at this ⊢; omega
        · have h2 := b4 d hd; simp at this h2; omega⟩
      show Safe2 ts (trW (p, a, t) ++ (U.filter onw).flatMap trW ++ ws) s F
      rw [hts]
      refine Safe2.move h hsrt ha (show p ≠ a by omega) fun s' h' hl => ?_
      rw [← hts]
      exact phase1b U ((a, t) :: R) s' h' hs (fun x hx => by rw [hl]; exact hb' x hx) (by rw [ht]; rfl) fun s2 h2 hl2 => k s2 h2 (by rw [hl2, hl])
    · have hm : max p a = p := Nat.max_eq_left (by omega)
      rw [hm] at hs k
      have hf : (((p, a, t) : Tr) :: U).filter onw = U.filter onw := by simp [onw, hpa]
      rw [hf]
      exact phase1b U ((p, t) :: R) s h hs hb' (by rw [ht]; rfl) k
theorem phase2b {ts : List Th} {ws : List Wr} {F : List Pl → Prop} : ∀ (T : List Tr) (L : Cs) (s : List Pl), On (L ++ trM T) s → Srt (L ++ trA T) → (∀ x ∈ T, x.2.1 < s.length) → ts = L.map (·.2) ++ trT T →
    (∀ s', On (L ++ trA T) s' → s'.length = s.length → Safe2 ts ws s' F) → Safe2 ts ((T.filter bkw).flatMap trW ++ ws) s F
  | [], L, s, h, hs, hb, ht, k => k s (by simpa [trM, trA] using h) rfl
  | (p, a, t) :: T, L, s, h, hs, hb, ht, k => by
    have e1 : L ++ trM ((p, a, t) :: T) = L ++ (max p a, t) :: trM T := rfl
    have e2 : L ++ trA ((p, a, t) :: T) = L ++ (a, t) :: trA T := rfl
    rw [e1] at h
    rw [e2] at hs k
    have ht' : ts = L.map (·.2) ++ t :: trT T := ht
    have ha := hb (p, a, t) (by simp)
    have hb' : ∀ x ∈ T, x.2.1 < s.length := fun x hx => hb x (by simp [hx])
    have re : ∀ X : Cs, L ++ (a, t) :: X = (L ++ [(a, t)]) ++ X := fun X => by simp
    by_cases hpa : a < p
    · have hm : max p a = p := Nat.max_eq_left (by omega)
      rw [hm] at h
      have hf : ((p, a, t) :: T).filter bkw = (p, a, t) :: T.filter bkw := by simp [bkw, hpa]
      rw [hf]
      have hmm : (trM T).map (·.2) = trT T := by simp [trM, trT]
      have hts : ts = L.map (·.2) ++ t :: (trM T).map (·.2) := by rw [ht', hmm]
      obtain ⟨a1, a2, a3⟩ := Srt.app.mp h.srt
      obtain ⟨a4, a5⟩ := Srt.cons.mp a2
      obtain ⟨b1, b2, b3⟩ := Srt.app.mp hs
      have hsrt : Srt (L ++ (a, t) :: trM T) := Srt.app.mpr ⟨a1, Srt.cons.mpr ⟨fun d hd => by have := a4 d hd; simp at this ⊢; omega, a5⟩, fun c hc d hd => by
        rcases List.mem_cons.mp hd with rfl | hd
        · exact b3 c hc _ (by simp)
        · exact a3 c hc d (by simp [hd])⟩
      show Safe2 ts (trW (p, a, t) ++ (T.filter bkw).flatMap trW ++ ws) s F
      rw [hts]
      refine Safe2.move h hsrt ha (show p ≠ a by omega) fun s' h' hl => ?_
      rw [← hts]
      rw [re] at h' hs k
      exact phase2b T (L ++ [(a, t)]) s' h' hs (fun x hx => by rw [hl]; exact hb' x hx) (by rw [ht']; simp) fun s2 h2 hl2 => k s2 h2 (by rw [hl2, hl])
    · have hf : ((p, a, t) :: T).filter bkw = T.filter bkw := by simp [bkw, hpa]
      rw [hf]
      rw [re] at hs k
      have hm : max p a = a := Nat.max_eq_right (by omega)
      rw [hm, re] at h
      exact phase2b T (L ++ [(a, t)]) s h hs hb' (by rw [ht']; simp) k
theorem moves_safe2 {T : List Tr} {s : List Pl} {ws : List Wr} {F : List Pl → Prop} (h : On (trP T) s) (ha : Srt (trA T)) (hb : ∀ x ∈ T, x.2.1 < s.length) (k : ∀ s', On (trA T) s' → s'.length = s.length → Safe2 (trT T) ws s' F) : Safe2 (trT T) (trWs T ++ ws) s F := by
  unfold trWs
  rw [List.append_assoc, ← List.filter_reverse]
  refine phase1b T.reverse [] s (by simpa using h) (by simpa using srt_max h.srt ha) (fun x hx => hb x (by simpa using hx)) (by simp) fun s' h' hl => ?_
  refine phase2b T [] s' (by simpa using h') (by simpa using ha) (fun x hx => by rw [hl]; exact hb x hx) (by simp) fun s2 h2 hl2 => ?_
  exact k s2 (by simpa using h2) (by rw [hl2, hl])
/-- the things by their places -/
def cells (ps : List Pl) : Cs := (fullN ps).map fun p => (p, thg ps p)
theorem cells_on (ps : List Pl) : On (cells ps) ps := by
  unfold cells
  refine ⟨fun c hc => ?_, fun x hx hc => ?_, ?_⟩
  · obtain ⟨p, hp, rfl⟩ := List.mem_map.mp hc
    exact ⟨Nat.zero_le _, (fullN_at hp).2⟩
  · have hnot : x ∉ fullN ps := fun h => hc (x, thg ps x) (List.mem_map.mpr ⟨x, h, rfl⟩) (by simp)
    rw [List.getElem?_eq_getElem hx]
    cases e : ps[x] with
    | none => rfl
    | some u =>
      exfalso
      refine hnot (List.mem_filter.mpr ⟨by simpa using hx, ?_⟩)
      unfold fullAt
      rw [List.getElem?_eq_getElem hx, e]
  · unfold Srt
    rw [List.pairwise_map]
    exact (List.pairwise_lt_range.filter _).imp fun h => h
theorem On.mem_iff {cs : Cs} {s : List Pl} (h : On cs s) (c : Nat × Th) : c ∈ cs ↔ s[c.1]? = some (some c.2) := by
  constructor
  · intro hc; simpa using (h.at' c hc).2
  · intro e
    refine Classical.byContradiction fun hn => ?_
    have hl := (List.getElem?_eq_some_iff.mp e).1
    by_cases hx : ∃ d ∈ cs, d.1 = c.1
    · obtain ⟨d, hd, e1⟩ := hx
      have := (h.at' d hd).2
      simp at this
      rw [e1, e] at this
      have : d = c := Prod.ext e1 (by simpa using this.symm)
      exact hn (this ▸ hd)
    · have := h.no c.1 hl fun d hd => by simpa using fun e1 => hx ⟨d, hd, e1⟩
      rw [e] at this; simp at this
theorem On.eq {cs : Cs} {s s' : List Pl} (h : On cs s) (h' : On cs s') (hl : s.length = s'.length) : s = s' := by
  apply List.ext_getElem?
  intro i
  by_cases hi : i < s.length
  · cases e : s[i] with
    | some t =>
      have e1 : s[i]? = some (some t) := by rw [List.getElem?_eq_getElem hi, e]
      have := (h'.mem_iff (i, t)).mp ((h.mem_iff (i, t)).mpr e1)
      rw [e1]; exact this.symm
    | none =>
      have e1 : s[i]? = some none := by rw [List.getElem?_eq_getElem hi, e]
      rw [e1]
      have hi' : i < s'.length := by omega
      cases e2 : s'[i] with
      | none => rw [List.getElem?_eq_getElem hi', e2]
      | some t =>
        have e3 : s'[i]? = some (some t) := by rw [List.getElem?_eq_getElem hi', e2]
        have := (h.mem_iff (i, t)).mp ((h'.mem_iff (i, t)).mpr e3)
        rw [e1] at this; simp at this
  · rw [List.getElem?_eq_none (by omega), List.getElem?_eq_none (by omega)]
theorem Srt.eq {a b : Cs} (ha : Srt a) (hb : Srt b) (h : ∀ c, c ∈ a ↔ c ∈ b) : a = b := by
  have na : a.Nodup := List.Pairwise.imp (fun h e => by subst e; omega) ha
  have nb : b.Nodup := List.Pairwise.imp (fun h e => by subst e; omega) hb
  have hp := (List.perm_ext_iff_of_nodup na nb).mpr h
  exact hp.eq_of_pairwise (le := fun x y : Nat × Th => x.1 < y.1) (fun x y _ _ h1 h2 => by omega) ha hb
theorem On.cells {cs : Cs} {s : List Pl} (h : On cs s) : cs = cells s := Srt.eq h.srt (cells_on s).srt fun c => by rw [h.mem_iff, (cells_on s).mem_iff]
theorem cells_things (ps : List Pl) : (cells ps).map (·.2) = things ps := (cells_on ps).things.symm
/-! ### evening a stretch -/
def csL (ps : List Pl) (f : Nat) : Cs := (cells ps).filter fun c => decide (c.1 < f)
def csM (ps : List Pl) (f z : Nat) : Cs := (cells ps).filter fun c => decide (f ≤ c.1 ∧ c.1 < f + z)
def csR (ps : List Pl) (e : Nat) : Cs := (cells ps).filter fun c => decide (e ≤ c.1)
def lessC (key : Int) (c : Nat × Th) : Bool := decide (c.2.1 < key)
def atN (ps : List Pl) (f z : Nat) (key : Int) : Nat := ((csM ps f z).filter (lessC key)).length
def aimAt (f z n k : Nat) : Nat := f + k * z / n
def aimsN (f z n : Nat) : List Nat := (List.range n).map (aimAt f z n)
def othersN (ps : List Pl) (f z : Nat) (key : Int) : List Nat :=
  (aimsN f z ((csM ps f z).length + 1)).take (atN ps f z key) ++ (aimsN f z ((csM ps f z).length + 1)).drop (atN ps f z key + 1)
def stay (c : Nat × Th) : Tr := (c.1, c.1, c.2)
def goTr (x : (Nat × Th) × Nat) : Tr := (x.1.1, x.2, x.1.2)
def evT (ps : List Pl) (f z : Nat) (key : Int) : List Tr := (csL ps f).map stay ++ (((csM ps f z).zip (othersN ps f z key)).map goTr ++ (csR ps (f + z)).map stay)
def newAim (ps : List Pl) (f z : Nat) (key : Int) : Nat := aimAt f z ((csM ps f z).length + 1) (atN ps f z key)
def insTh (ts : List Th) (t : Th) : List Th := ts.filter (fun u => decide (u.1 < t.1)) ++ t :: ts.filter (fun u => !decide (u.1 < t.1))
def finC (ps : List Pl) (f z : Nat) (t : Th) : Cs := csL ps f ++ ((aimsN f z ((csM ps f z).length + 1)).zip (insTh ((csM ps f z).map (·.2)) t) ++ csR ps (f + z))
theorem filter_le_split {α : Type} (g : α → Nat) : ∀ (l : List α) (f : Nat), l.Pairwise (fun a b => g a < g b) → l = l.filter (fun c => decide (g c < f)) ++ l.filter (fun c => decide (f ≤ g c))
  | [], _, _ => rfl
  | c :: l, f, h => by
    have hp := List.pairwise_cons.mp h
    have ih := filter_le_split g l f hp.2
    by_cases hc : g c < f
    · rw [List.filter_cons, if_pos (by simpa using hc), List.filter_cons, if_neg (by simp; omega), List.cons_append, ← ih]
    · have h1 : l.filter (fun c => decide (g c < f)) = [] := by
        rw [List.filter_eq_nil_iff]
        intro d hd
        have := hp.1 d hd
        simp; omega
      have h2 : l.filter (fun c => decide (f ≤ g c)) = l := by
        rw [List.filter_eq_self]
        intro d hd
        have := hp.1 d hd
        simp; omega
      rw [List.filter_cons, if_neg (by simpa using hc), List.filter_cons, if_pos (by simp; omega), h1, h2]; rfl
theorem filter_lt_splitI {α : Type} (g : α → Int) : ∀ (l : List α) (f : Int), l.Pairwise (fun a b => g a < g b) → l = l.filter (fun c => decide (g c < f)) ++ l.filter (fun c => !decide (g c < f))
  | [], _, _ => rfl
  | c :: l, f, h => by
    have hp := List.pairwise_cons.mp h
    have ih := filter_lt_splitI g l f hp.2
    by_cases hc : g c < f
    · rw [List.filter_cons, if_pos (by simpa using hc), List.filter_cons, if_neg (by simp; omega), List.cons_append, ← ih]
    · have h1 : l.filter (fun c => decide (g c < f)) = [] := by
        rw [List.filter_eq_nil_iff]
        intro d hd
        have := hp.1 d hd
        simp; omega
      have h2 : l.filter (fun c => !decide (g c < f)) = l := by
        rw [List.filter_eq_self]
        intro d hd
        have := hp.1 d hd
        simp; omega
      rw [List.filter_cons, if_neg (by simpa using hc), List.filter_cons, if_pos (by simp; omega), h1, h2]; rfl
theorem cells_split (ps : List Pl) (f z : Nat) : cells ps = csL ps f ++ (csM ps f z ++ csR ps (f + z)) := by
  have h1 := filter_le_split (fun c : Nat × Th => c.1) (cells ps) f (cells_on ps).srt
  have h2 := filter_le_split (fun c : Nat × Th => c.1) ((cells ps).filter fun c => decide (f ≤ c.1)) (f + z) ((cells_on ps).srt.filter _)
  conv => lhs; rw [h1]
  unfold csL
  congr 1
  rw [h2, List.filter_filter, List.filter_filter]
  unfold csM csR
  congr 1
  · apply List.filter_congr; intro c _; simp; rw [Bool.and_comm]
  · apply List.filter_congr; intro c _; simp; omega
theorem cells_keys {ps : List Pl} (h : Rises (things ps)) : (cells ps).Pairwise fun a b => a.2.1 < b.2.1 := by
  unfold Rises at h
  rw [← cells_things, List.pairwise_map] at h
  exact h
theorem aimsN_length (f z n : Nat) : (aimsN f z n).length = n := by simp [aimsN]
theorem aim_step {z n : Nat} (hn : 0 < n) (h : n ≤ z) (k : Nat) : k * z / n < (k + 1) * z / n := by
  have h1 : (k + 1) * z = k * z + z := Nat.succ_mul k z
  have h2 : (k * z + n) / n ≤ (k * z + z) / n := Nat.div_le_div_right (by omega)
  rw [Nat.add_div_right _ hn] at h2
  rw [h1]; omega
theorem aim_lt {z n : Nat} (hn : 0 < n) (h : n ≤ z) {j k : Nat} (hjk : j < k) : j * z / n < k * z / n := by
  obtain ⟨d, rfl⟩ : ∃ d, k = j + 1 + d := ⟨k - j - 1, by omega⟩
  clear hjk
  induction d with
  | zero => exact aim_step hn h j
  | succ d ih => exact Nat.lt_trans ih (aim_step hn h (j + 1 + d))
theorem aimsN_srt {f z n : Nat} (h : n ≤ z) : (aimsN f z n).Pairwise (· < ·) := by
  unfold aimsN
  rw [List.pairwise_map]
  rcases Nat.eq_zero_or_pos n with hn | hn
  · subst hn; simp
  · exact List.pairwise_lt_range.imp fun {a b} hab => by
      have := aim_lt hn h hab
      unfold aimAt; omega
theorem aim_in {z n k : Nat} (hk : k < n) (hz : 0 < z) : k * z / n < z := by
  rw [Nat.div_lt_iff_lt_mul (by omega), Nat.mul_comm z n]
  exact Nat.mul_lt_mul_of_pos_right hk hz
theorem aimsN_mem {f z n a : Nat} (hz : 0 < z) (h : a ∈ aimsN f z n) : f ≤ a ∧ a < f + z := by
  unfold aimsN at h
  obtain ⟨k, hk, rfl⟩ := List.mem_map.mp h
  have := aim_in (n := n) (by simpa using hk) hz
  show f ≤ f + k * z / n ∧ f + k * z / n < f + z
  exact ⟨Nat.le_add_right _ _, Nat.add_lt_add_left this _⟩
theorem srt_zip {as : List Nat} {ts : List Th} (h : as.Pairwise (· < ·)) (hl : as.length ≤ ts.length) : Srt (as.zip ts) := by
  unfold Srt
  have : ((as.zip ts).map Prod.fst).Pairwise (· < ·) := by rw [List.map_fst_zip hl]; exact h
  rwa [List.pairwise_map] at this
structure EvOk (ps : List Pl) (f z : Nat) (key : Int) : Prop where
  ris : Rises (things ps)
  len : f + z ≤ ps.length
  room : (csM ps f z).length + 1 ≤ z
  lo : ∀ c ∈ csL ps f, c.2.1 < key
  hi : ∀ c ∈ csR ps (f + z), key < c.2.1
  no : ∀ t ∈ things ps, t.1 ≠ key
section
variable {ps : List Pl} {f z : Nat} {key : Int}
theorem csM_split (h : Rises (things ps)) : csM ps f z = (csM ps f z).filter (lessC key) ++ (csM ps f z).filter (fun c => !lessC key c) :=
  filter_lt_splitI (fun c : Nat × Th => c.2.1) (csM ps f z) key ((cells_keys h).filter _)
theorem atN_le : atN ps f z key ≤ (csM ps f z).length := List.length_filter_le _ _
theorem othersN_length : (othersN ps f z key).length = (csM ps f z).length := by
  have := atN_le (ps := ps) (f := f) (z := z) (key := key)
  unfold othersN
  rw [List.length_append, List.length_take, List.length_drop, aimsN_length]
  omega
theorem insTh_length (ts : List Th) (t : Th) : (insTh ts t).length = ts.length + 1 := by
  unfold insTh
  rw [List.length_append, List.length_cons]
  have : ∀ l : List Th, (l.filter (fun u => decide (u.1 < t.1))).length + (l.filter (fun u => !decide (u.1 < t.1))).length = l.length := fun l => by
    induction l with
    | nil => rfl
    | cons u l ih => by_cases hu : u.1 < t.1 <;> simp [hu] at ih ⊢ <;> omega
  have := this ts; omega
/-- the parts -/
structure EvPart (ps : List Pl) (f z : Nat) (key : Int) (A1 A2 : List Nat) (M1 M2 : Cs) : Prop where
  aims : aimsN f z ((csM ps f z).length + 1) = A1 ++ newAim ps f z key :: A2
  m : csM ps f z = M1 ++ M2
  l1 : A1.length = M1.length
  l2 : A2.length = M2.length
  k1 : ∀ c ∈ M1, c.2.1 < key
  k2 : ∀ c ∈ M2, ¬ c.2.1 < key
  oth : othersN ps f z key = A1 ++ A2
theorem ev_part (h : Rises (things ps)) : ∃ A1 A2 M1 M2, EvPart ps f z key A1 A2 M1 M2 := by
  have hat := atN_le (ps := ps) (f := f) (z := z) (key := key)
  have hm := csM_split (f := f) (z := z) (key := key) h
  have hl := congrArg List.length hm
  rw [List.length_append] at hl
  refine ⟨(aimsN f z ((csM ps f z).length + 1)).take (atN ps f z key), (aimsN f z ((csM ps f z).length + 1)).drop (atN ps f z key + 1), _, _, ?_, hm, ?_, ?_, ?_, ?_, rfl⟩
  · have hlt : atN ps f z key < (aimsN f z ((csM ps f z).length + 1)).length := by rw [aimsN_length]; omega
    conv => lhs; rw [← List.take_append_drop (atN ps f z key) (aimsN f z ((csM ps f z).length + 1))]
    rw [List.drop_eq_getElem_cons hlt]
    congr 2
    simp [aimsN, newAim]
  · rw [List.length_take, aimsN_length]; unfold atN; unfold atN at hat; omega
  · rw [List.length_drop, aimsN_length]; unfold atN at hat ⊢; omega
  · intro c hc; simpa [lessC] using (List.mem_filter.mp hc).2
  · intro c hc; have := (List.mem_filter.mp hc).2; simp [lessC] at this; omega
theorem EvPart.ins {A1 A2 : List Nat} {M1 M2 : Cs} (p : EvPart ps f z key A1 A2 M1 M2) (am : Int) : insTh ((csM ps f z).map (·.2)) (key, am) = M1.map (·.2) ++ (key, am) :: M2.map (·.2) := by
  have e1 : M1.filter (fun c => decide (c.2.1 < key)) = M1 := List.filter_eq_self.mpr fun c hc => by simpa using p.k1 c hc
  have e2 : M2.filter (fun c => decide (c.2.1 < key)) = [] := List.filter_eq_nil_iff.mpr fun c hc => by simpa using p.k2 c hc
  have e3 : M1.filter (fun c => !decide (c.2.1 < key)) = [] := List.filter_eq_nil_iff.mpr fun c hc => by simpa using p.k1 c hc
  have e4 : M2.filter (fun c => !decide (c.2.1 < key)) = M2 := List.filter_eq_self.mpr fun c hc => by simpa using p.k2 c hc
  unfold insTh
  rw [p.m, List.map_append, List.filter_append, List.filter_append, List.filter_map, List.filter_map, List.filter_map, List.filter_map]
  simp only [Function.comp_def]
  rw [e1, e2, e3, e4]
  simp
theorem EvPart.fin {A1 A2 : List Nat} {M1 M2 : Cs} (p : EvPart ps f z key A1 A2 M1 M2) (am : Int) :
    finC ps f z (key, am) = (csL ps f ++ A1.zip (M1.map (·.2))) ++ (newAim ps f z key, (key, am)) :: (A2.zip (M2.map (·.2)) ++ csR ps (f + z)) := by
  unfold finC
  rw [p.ins, p.aims, List.zip_append (by simpa using p.l1), List.zip_cons_cons]
  simp
theorem trA_stay (cs : Cs) : trA (cs.map stay) = cs := by simp [trA, stay, Function.comp_def]
theorem trP_stay (cs : Cs) : trP (cs.map stay) = cs := by simp [trP, stay, Function.comp_def]
theorem trA_go (M : Cs) (A : List Nat) : trA ((M.zip A).map goTr) = A.zip (M.map (·.2)) := by
  induction M generalizing A with
  | nil => simp [trA]
  | cons c M ih => cases A with
    | nil => simp [trA]
    | cons a A => have := ih A; simp [trA, goTr] at this ⊢; exact this
theorem trP_go (M : Cs) (A : List Nat) (h : A.length = M.length) : trP ((M.zip A).map goTr) = M := by
  induction M generalizing A with
  | nil => simp [trP]
  | cons c M ih => cases A with
    | nil => simp at h
    | cons a A => have := ih A (by simpa using h); simp [trP, goTr] at this ⊢; exact this
theorem tr_app (f : List Tr → Cs) : True := trivial
theorem trA_app (a b : List Tr) : trA (a ++ b) = trA a ++ trA b := by simp [trA]
theorem trP_app (a b : List Tr) : trP (a ++ b) = trP a ++ trP b := by simp [trP]
theorem evT_P : trP (evT ps f z key) = cells ps := by
  unfold evT
  rw [trP_app, trP_app, trP_stay, trP_stay, trP_go _ _ othersN_length, ← cells_split]
theorem EvPart.A {A1 A2 : List Nat} {M1 M2 : Cs} (p : EvPart ps f z key A1 A2 M1 M2) : trA (evT ps f z key) = (csL ps f ++ A1.zip (M1.map (·.2))) ++ (A2.zip (M2.map (·.2)) ++ csR ps (f + z)) := by
  unfold evT
  rw [trA_app, trA_app, trA_stay, trA_stay, trA_go, p.oth, p.m, List.map_append, List.zip_append (by simpa using p.l1)]
  simp
theorem evT_T : trT (evT ps f z key) = things ps := by
  have : trT (evT ps f z key) = (trP (evT ps f z key)).map (·.2) := by simp [trT, trP]
  rw [this, evT_P, cells_things]
theorem finC_srt (h : EvOk ps f z key) (am : Int) : Srt (finC ps f z (key, am)) := by
  unfold finC
  have hz : 0 < z := by have := h.room; omega
  refine Srt.app.mpr ⟨(cells_on ps).srt.filter _, Srt.app.mpr ⟨srt_zip (aimsN_srt h.room) (by rw [aimsN_length, insTh_length]; simp), (cells_on ps).srt.filter _, fun x hx y hy => ?_⟩, fun x hx y hy => ?_⟩
  · have h1 := aimsN_mem hz (List.of_mem_zip hx).1
    have h2 := (List.mem_filter.mp hy).2
    simp at h2; omega
  · have h1 := (List.mem_filter.mp hx).2
    simp at h1
    rcases List.mem_append.mp hy with hy | hy
    · have h2 := aimsN_mem hz (List.of_mem_zip hy).1; omega
    · have h2 := (List.mem_filter.mp hy).2
      simp at h2; omega
theorem finC_lt (h : EvOk ps f z key) (am : Int) : ∀ c ∈ finC ps f z (key, am), c.1 < ps.length := by
  intro c hc
  have hz : 0 < z := by have := h.room; omega
  have hl := h.len
  unfold finC at hc
  rcases List.mem_append.mp hc with hc | hc
  · exact (cells_on ps).lt (List.mem_filter.mp hc).1
  · rcases List.mem_append.mp hc with hc | hc
    · have := aimsN_mem hz (List.of_mem_zip hc).1; omega
    · exact (cells_on ps).lt (List.mem_filter.mp hc).1
theorem srt_mid {L R : Cs} {c : Nat × Th} (h : Srt (L ++ c :: R)) : Srt (L ++ R) := by
  obtain ⟨h1, h2, h3⟩ := Srt.app.mp h
  obtain ⟨h4, h5⟩ := Srt.cons.mp h2
  exact Srt.app.mpr ⟨h1, h5, fun x hx y hy => h3 x hx y (List.mem_cons_of_mem _ hy)⟩
theorem evT_srt (h : EvOk ps f z key) : Srt (trA (evT ps f z key)) := by
  obtain ⟨A1, A2, M1, M2, p⟩ := ev_part (f := f) (z := z) (key := key) h.ris
  have := finC_srt h 0
  rw [p.fin] at this
  rw [p.A]; exact srt_mid this
theorem evT_lt (h : EvOk ps f z key) : ∀ x ∈ evT ps f z key, x.2.1 < ps.length := by
  intro x hx
  have : (x.2.1, x.2.2) ∈ trA (evT ps f z key) := List.mem_map.mpr ⟨x, hx, rfl⟩
  obtain ⟨A1, A2, M1, M2, p⟩ := ev_part (f := f) (z := z) (key := key) h.ris
  refine finC_lt h 0 (x.2.1, x.2.2) ?_
  rw [p.fin]
  rw [p.A] at this
  rcases List.mem_append.mp this with h | h
  · exact List.mem_append_left _ h
  · exact List.mem_append_right _ (List.mem_cons_of_mem _ h)
/-- the last write -/
theorem ev_last (h : EvOk ps f z key) (am : Int) {s : List Pl} (hs : On (trA (evT ps f z key)) s) (hl : s.length = ps.length) :
    s[newAim ps f z key]? = some none ∧ newAim ps f z key < s.length ∧ On (finC ps f z (key, am)) (s.set (newAim ps f z key) (some (key, am))) := by
  obtain ⟨A1, A2, M1, M2, p⟩ := ev_part (f := f) (z := z) (key := key) h.ris
  have hsrt := finC_srt h am
  have hlt := finC_lt h am
  rw [p.fin] at hsrt hlt
  have hx : newAim ps f z key < s.length := by rw [hl]; exact hlt (_, (key, am)) (List.mem_append_right _ (List.mem_cons_self ..))
  have hne : ∀ c ∈ trA (evT ps f z key), c.1 ≠ newAim ps f z key := by
    intro c hc
    rw [p.A] at hc
    obtain ⟨h1, h2, h3⟩ := Srt.app.mp hsrt
    obtain ⟨h4, h5⟩ := Srt.cons.mp h2
    rcases List.mem_append.mp hc with hc | hc
    · have := h3 c hc _ (List.mem_cons_self ..); simp at this; omega
    · have := h4 c hc; simp at this; omega
  refine ⟨?_, hx, ?_⟩
  · exact hs.no _ hx fun c hc => by simpa using hne c hc
  · rw [p.fin]
    refine hs.lay hx hne hsrt fun c => ?_
    rw [p.A]
    simp only [List.mem_append, List.mem_cons]
    constructor
    · rintro (h | h | h)
      · exact .inl (.inl h)
      · exact .inr h
      · exact .inl (.inr h)
    · rintro ((h | h) | h)
      · exact .inl h
      · exact .inr (.inr h)
      · exact .inr (.inl h)
theorem insTh_app {l r : List Th} {t : Th} (h1 : ∀ u ∈ l, u.1 < t.1) (h2 : ∀ u ∈ r, ¬ u.1 < t.1) : insTh (l ++ r) t = l ++ t :: r := by
  have e1 : l.filter (fun u => decide (u.1 < t.1)) = l := List.filter_eq_self.mpr fun c hc => by simpa using h1 c hc
  have e2 : r.filter (fun u => decide (u.1 < t.1)) = [] := List.filter_eq_nil_iff.mpr fun c hc => by simpa using h2 c hc
  have e3 : l.filter (fun u => !decide (u.1 < t.1)) = [] := List.filter_eq_nil_iff.mpr fun c hc => by simpa using h1 c hc
  have e4 : r.filter (fun u => !decide (u.1 < t.1)) = r := List.filter_eq_self.mpr fun c hc => by simpa using h2 c hc
  unfold insTh
  rw [List.filter_append, List.filter_append, e1, e2, e3, e4]; simp
theorem things_split (ps : List Pl) (f z : Nat) : things ps = (csL ps f).map (·.2) ++ ((csM ps f z).map (·.2) ++ (csR ps (f + z)).map (·.2)) := by
  rw [← cells_things, cells_split ps f z]; simp
theorem finC_things (h : EvOk ps f z key) (am : Int) : (finC ps f z (key, am)).map (·.2) = insTh (things ps) (key, am) := by
  obtain ⟨A1, A2, M1, M2, p⟩ := ev_part (f := f) (z := z) (key := key) h.ris
  have e : things ps = ((csL ps f).map (·.2) ++ M1.map (·.2)) ++ (M2.map (·.2) ++ (csR ps (f + z)).map (·.2)) := by
    rw [things_split ps f z, p.m]; simp
  rw [e, insTh_app, p.fin]
  · have z1 : (A1.zip (M1.map (·.2))).map (·.2) = M1.map (·.2) := List.map_snd_zip (by simp [p.l1])
    have z2 : (A2.zip (M2.map (·.2))).map (·.2) = M2.map (·.2) := List.map_snd_zip (by simp [p.l2])
    simp only [List.map_append, List.map_cons, z1, z2]
  · intro u hu
    rcases List.mem_append.mp hu with hu | hu
    · obtain ⟨c, hc, rfl⟩ := List.mem_map.mp hu; exact h.lo c hc
    · obtain ⟨c, hc, rfl⟩ := List.mem_map.mp hu; exact p.k1 c hc
  · intro u hu
    rcases List.mem_append.mp hu with hu | hu
    · obtain ⟨c, hc, rfl⟩ := List.mem_map.mp hu; exact p.k2 c hc
    · obtain ⟨c, hc, rfl⟩ := List.mem_map.mp hu; have := h.hi c hc; simp; omega
/-- the writes -/
def evW (ps : List Pl) (f z : Nat) (key am : Int) : List Wr := trWs (evT ps f z key) ++ [((newAim ps f z key : Int), some (key, am))]
theorem ev_safe (h : EvOk ps f z key) (am : Int) {ws : List Wr} {F : List Pl → Prop} (k : ∀ s, On (trA (evT ps f z key)) s → s.length = ps.length → Safe2 (things ps) ws s F) : Safe2 (things ps) (trWs (evT ps f z key) ++ ws) ps F := by
  rw [← evT_T (ps := ps) (f := f) (z := z) (key := key)] at k ⊢
  exact moves_safe2 (by rw [evT_P]; exact cells_on ps) (evT_srt h) (evT_lt h) k
/-- a shelf's end behind all writes -/
theorem Safe2.last {ts : List Th} : ∀ {ws : List Wr} {s : List Pl} {F : List Pl → Prop}, Safe2 ts ws s F → F (doneP s ws)
  | [], s, F, h => h
  | w :: ws, s, F, h => Safe2.last (ws := ws) (F := F) h.2.2.2.2
theorem ev_done (h : EvOk ps f z key) (am : Int) : On (finC ps f z (key, am)) (doneP ps (evW ps f z key am)) := by
  have h1 := ev_safe (ws := []) (F := fun s => On (trA (evT ps f z key)) s ∧ s.length = ps.length) h am fun s hs hl => ⟨hs, hl⟩
  rw [List.append_nil] at h1
  have h2 := Safe2.last h1
  unfold evW
  rw [doneP_app]
  simp only [doneP]
  have := (ev_last h am h2.1 h2.2).2.2
  simpa using this
end
/-! ### raise -/
/-- an own exception class, without a field -/
def Xc (K : PySem.W.Frag) (mg : Str → Option Value) (x : Str) : Prop :=
  ∃ C, mg x = some (.ref C) ∧ PySem.W.excIn K C [.type "ValueError", .type "Exception", .type "BaseException", .type "object"] "ValueError.__new__" = true ∧ PySem.W.keepIn K (.ref C) = true ∧ PySem.W.subIn K (.ref C) (.type "BaseException") = some true ∧ PySem.W.typeIn K (.ref C) = some (.type "type")
def wsRaise (x : Str) : WS := fun ρ S _ E => E x ρ S
theorem ss_raise {X : Cx} {WW : WX} {x m : Str} {j : Nat} {p p2 pos pos2 : Pos} (hc : X.calm = true) (tk : Takes X WW) (xc : Xc X.K X.mg x) (hg : Gl X x) (hdb : (x == ("__debug__" : Str)) = false := by decide) :
    PS X (.Raise (some (.Call (.Name x p) [.Constant (.str m) j p2] [] pos)) none pos2) (tsm X.K X.mg WW (wsRaise x)) := by
  obtain ⟨C, gC, xC, kC, bC, tC⟩ := xc
  refine PS.conv (ps_raise hc tk (pmk_own PySem.F.excBase_ValueError xC gC kC (raises_own bC tC) hg hdb)) fun D σ H ⟨φ, ρ, S, rs, re, D', E', hw, hn, hr, hx⟩ => ?_
  exact hx x ρ S hw (.ref C) φ H σ Ext.refl rs re gC
@[simp] theorem e_raise {x : Str} {ρ : DEnv} {S : Store} {D : DEnds} {E : PX} : wsRaise x ρ S D E = E x ρ S := rfl
/-! ### try .. except T as e -/
def wsTryAs (i : Nat) (cs : List Str) (wb : WS) (suite : Str → Addr → WS) : WS := fun ρ S D E => wb ρ S D (fun c ρ1 S1 => c ∈ cs ∧ ∀ a, suite c a (ρ1.set i (some (.adr a))) S1 ⟨fun ρ2 S2 => D.nx (ρ2.set i none) S2, D.rt⟩ NoE)
def wsTryOnly (cs : List Str) (wb : WS) (suite : WS) : WS := fun ρ S D E => wb ρ S D (fun c ρ1 S1 => c ∈ cs ∧ suite ρ1 S1 D NoE)
@[simp] theorem e_tryAs {i : Nat} {cs : List Str} {wb : WS} {suite : Str → Addr → WS} {ρ : DEnv} {S : Store} {D : DEnds} {E : PX} : wsTryAs i cs wb suite ρ S D E = wb ρ S D (fun c ρ1 S1 => c ∈ cs ∧ ∀ a, suite c a (ρ1.set i (some (.adr a))) S1 ⟨fun ρ2 S2 => D.nx (ρ2.set i none) S2, D.rt⟩ NoE) := rfl
@[simp] theorem e_tryOnly {cs : List Str} {wb suite : WS} {ρ : DEnv} {S : Store} {D : DEnds} {E : PX} : wsTryOnly cs wb suite ρ S D E = wb ρ S D (fun c ρ1 S1 => c ∈ cs ∧ suite ρ1 S1 D NoE) := rfl
/-- the clause's class s takes those of cs -/
def XT (K : PySem.W.Frag) (mg : Str → Option Value) (s : Str) (cs : List Str) : Prop := ∃ S, mg s = some (.ref S) ∧ ∀ c ∈ cs, ∃ C, mg c = some (.ref C) ∧ PySem.W.exmOne K (.ref C) (.ref S) = some true
theorem adr_rd {K : PySem.W.Frag} {φ : List Addr} {H : Hp} {a : Addr} : RD K φ H (.adr a) (.ref a) := by simp only [RD]
theorem ss_try_as {X : Cx} {WW : WX} {x n : Str} {i : Nat} {body suite : List Stmt} {b₀ : Stmt} {np pos pos' : Pos} {wb : WS} {ws : Str → Addr → WS} {cs : List Str} (hs : X.stack = X.env :: X.outer) (hf : X.env.frame = some X.env.locals) (hN : X.N.Nodup) (hi : X.N[i]? = some n) (hln : X.env.kindOf n = some .local)
    (hg : Gl X x) (xt : XT X.K X.mg x cs) (tk : Takes X WW)
    (hb : ∀ (W : WX) (pn : List (Addr × Obj)) (xe : Value → Shared → Prop), Takes (X.tr pn xe) W → PassesOwn (model X.prog X.w) X.A X.env xe → PSs (X.tr pn xe) body (tsm X.K X.mg W wb))
    (hsu : ∀ (c : Str) (C : Addr), c ∈ cs → X.mg c = some (.ref C) → ∀ (a : Addr) (oe : Obj) (pn : List (Addr × Obj)), Zc (.ref C) none oe → (∃ vs, oe.data = .fields vs) → PSs (X.suite a ((a, oe) :: pn)) (b₀ :: suite) (tsm X.K X.mg NoW (ws c a)))
    (hdb : (x == ("__debug__" : Str)) = false := by decide) :
    PS X (.Try body [.ExceptHandler (some (.Name x np)) (some n) (b₀ :: suite) pos'] [] [] pos) (tsm X.K X.mg WW (wsTryAs i cs wb ws)) := by
  obtain ⟨S, gS, xt⟩ := xt
  refine PS.conv (ps_try_as (c := .ref S) (ts := fun a cls d D σ H => ∃ c C, c ∈ cs ∧ X.mg c = some (.ref C) ∧ cls = .ref C ∧ d = none ∧ tsm X.K X.mg NoW (ws c a) D σ H) hs hf hN hi hln ⟨hg, hdb, .inl gS⟩ tk hb ?_) ?_
  · intro a oe cls d pn hz hv
    refine ⟨fun pins s σ H D I h => ?_⟩
    obtain ⟨c, C, hc, hm, rfl, rfl, q⟩ := h
    exact (hsu c C hc hm a oe pn hz hv).run pins s σ H D I q
  · rintro D σ H ⟨φ, ρ, St, rs, re, D', E', hw, hn, hr, hx⟩
    refine ⟨φ, ρ, St, rs, re, D', _, hw, hn, hr, fun c ρ1 S1 hcs u φ1 H1 σ1 x1 rs1 re1 m => ?_⟩
    obtain ⟨hc, hq⟩ := hcs
    obtain ⟨C, gC, e⟩ := xt c hc
    rw [gC] at m
    cases m
    refine ⟨true, e, fun _ a _ => ⟨c, C, hc, gC, rfl, rfl, φ1, _, S1, rs1, re1.set adr_rd i, _, _, hq a, fun ρ2 S2 h2 σ2 φ2 H2 x2 rs2 re2 => ?_, fun d S2 h2 v φ2 H2 x2 rs2 rd2 => hr d S2 h2 v φ2 H2 (x1.trans x2) rs2 rd2, fun _ _ _ z => z.elim⟩, fun z => nomatch z⟩
    exact hn _ _ h2 _ _ _ (x1.trans x2) rs2 (re2.none i)
theorem ss_try_only {X : Cx} {WW : WX} {x : Str} {body suite : List Stmt} {b₀ : Stmt} {np pos pos' : Pos} {wb ws : WS} {cs : List Str} (hs : X.stack = X.env :: X.outer) (hf : X.env.frame = some X.env.locals)
    (hg : Gl X x) (xt : XT X.K X.mg x cs) (tk : Takes X WW)
    (hb : ∀ (W : WX) (pn : List (Addr × Obj)) (xe : Value → Shared → Prop), Takes (X.tr pn xe) W → PassesOwn (model X.prog X.w) X.A X.env xe → PSs (X.tr pn xe) body (tsm X.K X.mg W wb))
    (hsu : ∀ (a : Addr) (pn : List (Addr × Obj)), PSs (X.suite a pn) (b₀ :: suite) (tsm X.K X.mg NoW ws))
    (hdb : (x == ("__debug__" : Str)) = false := by decide) :
    PS X (.Try body [.ExceptHandler (some (.Name x np)) none (b₀ :: suite) pos'] [] [] pos) (tsm X.K X.mg WW (wsTryOnly cs wb ws)) := by
  obtain ⟨S, gS, xt⟩ := xt
  refine PS.conv (ps_try_only (c := .ref S) (ts := fun a cls d => tsm X.K X.mg NoW ws) hs hf ⟨hg, hdb, .inl gS⟩ tk hb (fun a oe cls d pn _ _ => hsu a _)) ?_
  rintro D σ H ⟨φ, ρ, St, rs, re, D', E', hw, hn, hr, hx⟩
  refine ⟨φ, ρ, St, rs, re, D', _, hw, hn, hr, fun c ρ1 S1 hcs u φ1 H1 σ1 x1 rs1 re1 m => ?_⟩
  obtain ⟨hc, hq⟩ := hcs
  obtain ⟨C, gC, e⟩ := xt c hc
  rw [gC] at m
  cases m
  exact ⟨true, e, fun _ a _ => ⟨φ1, _, S1, rs1, re1, D', _, hq, fun ρ2 S2 h2 σ2 φ2 H2 x2 rs2 re2 => hn _ _ h2 _ _ _ (x1.trans x2) rs2 re2, fun d S2 h2 v φ2 H2 x2 rs2 rd2 => hr d S2 h2 v φ2 H2 (x1.trans x2) rs2 rd2, fun _ _ _ z => z.elim⟩, fun z => nomatch z⟩
/-! ### isinstance of the caught one -/
def isub (c t : Str) : Bool := decide (c = t)
/-- what the classes of cs must say, so that isinstance asks rightly for those of Ts -/
def XI (K : PySem.W.Frag) (mg : Str → Option Value) (cs Ts : List Str) : Prop := ∀ c ∈ cs, ∃ C, mg c = some (.ref C) ∧ ExcC K C ∧ PySem.W.kitOne K (.ref C) (.type "ValueError") = some true ∧ ∀ t ∈ Ts, ∃ T, mg t = some (.ref T) ∧ PySem.W.kitOne K (.ref C) (.ref T) = some (isub c t)
def wIsE (i : Nat) (a : Addr) (b : Bool) : W := fun ρ S Q _ => ρ[i]? = some (some (.adr a)) ∧ Q (.bl b) S
@[simp] theorem e_isE {i : Nat} {a : Addr} {b : Bool} {ρ : DEnv} {S : Store} {Q : PQ} {E : PX} : wIsE i a b ρ S Q E = (ρ[i]? = some (some (.adr a)) ∧ Q (.bl b) S) := rfl
/-- isinstance(e, (c1, c2, ..)) of the caught one -/
def rIsET (K : PySem.W.Frag) (D a : Addr) : List V → Hp → VK → Prop := fun xs H Q => ∃ (tp : Addr) (cs : List V) (us : List Value) (b : Bool), xs = [.ref a, .ref tp] ∧ H tp = some (.tup cs) ∧ Paired ClsV cs us ∧ PySem.W.kitAny K (.ref D) us = some b ∧ Q (.bl b) H
theorem call_isET {X : Cx} {a D : Addr} {oe : Obj} {pn : List (Addr × Obj)} (C : ExcC X.K D) (hz : Zc (.ref D) none oe) (hf : ∃ vs, oe.data = .fields vs) : CallR (X.suite a ((a, oe) :: pn)) (.builtin "isinstance") (rIsET X.K D a) := by
  intro pins s σ H xs us Q I r h
  obtain ⟨tp, cs, ws, b, rfl, hT, k, e, q⟩ := h
  obtain ⟨u1, u2, rfl, r1, r2⟩ := vals2 r
  cases (show u2 = Value.ref tp from r2)
  cases (show u1 = Value.ref a from r1)
  obtain ⟨hget, _⟩ := I.pin (a, oe) (List.mem_append.mpr (.inl List.mem_cons_self))
  obtain ⟨vs, hv⟩ := hf
  have J : PySem.W.InstAt s.heap a oe D none := by
    obtain ⟨oc, od, oda, osl⟩ := oe
    obtain ⟨h1, h2⟩ := hz
    dsimp only at h1 h2 hv
    subst h1 h2 hv
    exact ⟨hget, rfl, rfl, trivial⟩
  obtain ⟨_, its, rv, o, h1, h2, n, h3⟩ := (show ObjOk X.prog X.w H s.heap tp (.tup cs) from I.hok tp _ hT)
  have e3 := ClsV.all k rv
  subst e3
  obtain ⟨oc, od, dt, sl⟩ := o
  simp only at h2 h3
  subst h2 h3
  exact PySem.W.kia_tup (PySem.W.handS_kitx_exc C.hg C.hk C.hs C.hd C.ha C.hn C.ht C.hm) I.kIn J h1 e (fun z => nomatch z) fun tk => ⟨.bl b, H, I.kept (t' := tk) fun _ _ z => z, rfl, q⟩
section
variable {X : Cx} {a C : Addr} {oe : Obj} {pn : List (Addr × Obj)} {cs Ts : List Str} {c : Str} {p p1 p2 p3 pos : Pos} {i : Nat} {n : Str}
theorem XI.of (xi : XI X.K X.mg cs Ts) (hc : c ∈ cs) (hm : X.mg c = some (.ref C)) : ExcC X.K C ∧ PySem.W.kitOne X.K (.ref C) (.type "ValueError") = some true ∧ ∀ t ∈ Ts, ∃ T, X.mg t = some (.ref T) ∧ PySem.W.kitOne X.K (.ref C) (.ref T) = some (isub c t) := by
  obtain ⟨C', h1, h⟩ := xi c hc
  rw [hm] at h1
  cases h1
  exact h
theorem isE_go {te : TA} {r : List V → Hp → VK → Prop} {b : Bool} {Y : Cx} (h : ∀ φ ρ S σ H (Q : VK), RS Y.K Y.mg φ S H → RE Y.K φ H ρ σ → ρ[i]? = some (some (.adr a)) → (∀ φ' H', Ext φ H φ' H' → RS Y.K Y.mg φ' S H' → Q (.bl b) H') → te σ H fun vs H1 => r vs H1 Q) (σ : L2.St) (H : Hp) (Q : VK) (q : tm Y.K Y.mg NoW (wIsE i a b) σ H Q) : tCB r te σ H Q := by
  obtain ⟨φ, ρ, S, rs, re, Q', E', ⟨h1, h2⟩, hn, hx⟩ := q
  exact h φ ρ S σ H Q rs re h1 fun φ' H' x rs' => hn _ _ h2 _ _ _ x rs' RD.bl
theorem RE.adr {K : PySem.W.Frag} {φ : List Addr} {H : Hp} {ρ : DEnv} {σ : L2.St} (re : RE K φ H ρ σ) {j : Nat} {a : Addr} (h : ρ[j]? = some (some (.adr a))) : σ[j]? = some (some (.ref a)) := by
  obtain ⟨v, e, r⟩ := re.get j _ h
  have : v = .ref a := by simpa only [RD] using r
  rw [e, this]
theorem se_isE {x : Str} (xi : XI X.K X.mg cs Ts) (hc : c ∈ cs) (hm : X.mg c = some (.ref C)) (hz : Zc (.ref C) none oe) (hf : ∃ vs, oe.data = .fields vs) (ht : x ∈ Ts) (hgi : Gl X "isinstance") (hmi : X.mg "isinstance" = none) (hgx : Gl X x)
    (hN : X.N[i]? = some n := by rfl) (hv : Vis X.env.scope n := by first | exact Or.inl rfl | exact Or.inr (Or.inl rfl) | exact Or.inr (Or.inr rfl)) (hd : (n == ("__debug__" : Str)) = false := by decide)
    (hcd : (n == ("__classdict__" : Str)) = false := by decide) (hdx : (x == ("__debug__" : Str)) = false := by decide)
    (hs1 : starEach [.Name n p1, .Name x p2] X.env = (false, eval (.Name n p1) X.env) :: starEach [.Name x p2] X.env := by rfl) (hs2 : starEach [.Name x p2] X.env = (false, eval (.Name x p2) X.env) :: starEach [] X.env := by rfl) (hpl : (backTo pos (starEach [.Name x p2] X.env)).any (·.1) = false := by rfl) :
    PE (X.suite a ((a, oe) :: pn)) (.Call (.Name "isinstance" p) [.Name n p1, .Name x p2] [] pos) (tm X.K X.mg NoW (wIsE i a (isub c x))) := by
  obtain ⟨ec, _, hk⟩ := xi.of hc hm
  obtain ⟨T, gT, kT⟩ := hk x ht
  refine PE.conv (pe_callB (X := X.suite a ((a, oe) :: pn)) (call_isE ec hz hf) hgi hmi PyProof.Rows.boot_isinstance (pa_cons (pv i hN hv hd hcd) (pa_cons (pe_glob (v := .ref T) hgx gT rfl hdx) pa_nil hs2) hs1) (by decide) (by decide) hs1 hpl) ?_
  refine isE_go (Y := X) fun φ ρ S σ H Q rs re h1 q => ?_
  refine ⟨.ref a, re.adr h1, .ref T, .ref T, _, rfl, fun u r => r, kT, q _ _ Ext.refl rs⟩
theorem se_isEV (xi : XI X.K X.mg cs Ts) (hc : c ∈ cs) (hm : X.mg c = some (.ref C)) (hz : Zc (.ref C) none oe) (hf : ∃ vs, oe.data = .fields vs) (hgi : Gl X "isinstance") (hmi : X.mg "isinstance" = none) (hgx : Gl X "ValueError") (hmx : X.mg "ValueError" = none)
    (hN : X.N[i]? = some n := by rfl) (hv : Vis X.env.scope n := by first | exact Or.inl rfl | exact Or.inr (Or.inl rfl) | exact Or.inr (Or.inr rfl)) (hd : (n == ("__debug__" : Str)) = false := by decide)
    (hcd : (n == ("__classdict__" : Str)) = false := by decide)
    (hs1 : starEach [.Name n p1, .Name "ValueError" p2] X.env = (false, eval (.Name n p1) X.env) :: starEach [.Name "ValueError" p2] X.env := by rfl) (hs2 : starEach [.Name "ValueError" p2] X.env = (false, eval (.Name "ValueError" p2) X.env) :: starEach [] X.env := by rfl) (hpl : (backTo pos (starEach [.Name "ValueError" p2] X.env)).any (·.1) = false := by rfl) :
    PE (X.suite a ((a, oe) :: pn)) (.Call (.Name "isinstance" p) [.Name n p1, .Name "ValueError" p2] [] pos) (tm X.K X.mg NoW (wIsE i a true)) := by
  obtain ⟨ec, hk, _⟩ := xi.of hc hm
  refine PE.conv (pe_callB (X := X.suite a ((a, oe) :: pn)) (call_isE ec hz hf) hgi hmi PyProof.Rows.boot_isinstance (pa_cons (pv i hN hv hd hcd) (pa_cons (pe_bltn (v := .ty "ValueError") hgx hmx (by decide +kernel) rfl) pa_nil hs2) hs1) (by decide) (by decide) hs1 hpl) ?_
  refine isE_go (Y := X) fun φ ρ S σ H Q rs re h1 q => ?_
  refine ⟨.ref a, re.adr h1, .ty "ValueError", .type "ValueError", _, rfl, fun u r => r, hk, q _ _ Ext.refl rs⟩
/-- a tuple of classes -/
inductive CT (X Y : Cx) (Ts : List Str) (c : Str) (C : Addr) : List Expr → Bool → Prop where
  | nil : CT X Y Ts c C [] false
  | cons {x : Str} {pos : Pos} {es : List Expr} {b : Bool} (ht : x ∈ Ts) (hgx : Gl X x) (hdx : (x == ("__debug__" : Str)) = false) (hst : starEach (.Name x pos :: es) X.env = (false, eval (.Name x pos) X.env) :: starEach es X.env) : CT X Y Ts c C es b → CT X Y Ts c C (.Name x pos :: es) (isub c x || b)
theorem CT.pa (hk : ∀ t ∈ Ts, ∃ T, X.mg t = some (.ref T) ∧ PySem.W.kitOne X.K (.ref C) (.ref T) = some (isub c t)) : ∀ {es : List Expr} {b : Bool}, CT X (X.suite a ((a, oe) :: pn)) Ts c C es b →
    ∃ vs us, PA (X.suite a ((a, oe) :: pn)) es (fun σ H Q => Q vs H) ∧ Paired ClsV vs us ∧ PySem.W.kitAny X.K (.ref C) us = some b ∧ vs.length = es.length
  | _, _, .nil => ⟨[], [], pa_nil, .nil, rfl, rfl⟩
  | _, _, .cons (x := x) ht hgx hdx hst h => by
    obtain ⟨vs, us, h1, h2, h3, h4⟩ := CT.pa hk h
    obtain ⟨T, gT, kT⟩ := hk x ht
    refine ⟨.ref T :: vs, .ref T :: us, PA.conv (pa_cons (pe_glob (X := X.suite a ((a, oe) :: pn)) (v := .ref T) hgx gT rfl hdx) h1 hst) fun σ H Q q => q, .cons (.own T) h2, ?_, by simp [h4]⟩
    refine kitAny_cons kT (fun e => ?_) (fun e => by rw [e]; rfl)
    rw [e]; exact h3
theorem se_isET {es : List Expr} {k : Nat} {b : Bool} (xi : XI X.K X.mg cs Ts) (hc : c ∈ cs) (hm : X.mg c = some (.ref C)) (hz : Zc (.ref C) none oe) (hf : ∃ vs, oe.data = .fields vs) (ct : CT X (X.suite a ((a, oe) :: pn)) Ts c C es b) (hl : es.length ≤ 1000) (hgi : Gl X "isinstance") (hmi : X.mg "isinstance" = none)
    (hN : X.N[i]? = some n := by rfl) (hv : Vis X.env.scope n := by first | exact Or.inl rfl | exact Or.inr (Or.inl rfl) | exact Or.inr (Or.inr rfl)) (hd : (n == ("__debug__" : Str)) = false := by decide)
    (hcd : (n == ("__classdict__" : Str)) = false := by decide)
    (hs1 : starEach [.Name n p1, .Tuple es k p2] X.env = (false, eval (.Name n p1) X.env) :: starEach [.Tuple es k p2] X.env := by rfl) (hs2 : starEach [.Tuple es k p2] X.env = (false, eval (.Tuple es k p2) X.env) :: starEach [] X.env := by rfl) (hpl : (backTo pos (starEach [.Tuple es k p2] X.env)).any (·.1) = false := by rfl) :
    PE (X.suite a ((a, oe) :: pn)) (.Call (.Name "isinstance" p) [.Name n p1, .Tuple es k p2] [] pos) (tm X.K X.mg NoW (wIsE i a b)) := by
  obtain ⟨ec, _, hk⟩ := xi.of hc hm
  obtain ⟨vs, us, h1, h2, h3, h4⟩ := ct.pa hk
  refine PE.conv (pe_callB (X := X.suite a ((a, oe) :: pn)) (call_isET ec hz hf) hgi hmi PyProof.Rows.boot_isinstance (pa_cons (pv i hN hv hd hcd) (pa_cons (pe_tup h1) pa_nil hs2) hs1) (by decide) (by decide) hs1 hpl) ?_
  refine isE_go (Y := X) fun φ ρ S σ H Q rs re e1 q => ?_
  refine ⟨.ref a, re.adr e1, by rw [h4]; exact Nat.le_of_lt (small1000 hl), fun p hp => ?_⟩
  refine ⟨p, vs, us, b, rfl, upd_same, h2, h3, ?_⟩
  exact q φ _ (Ext.laid rs hp) (rs.laid hp)
end
/-! the facts, from those that k_is finds -/
theorem kit_self {K : PySem.W.Frag} {t : Value} : PySem.W.kitOne K t t = some true := by
  unfold PySem.W.kitOne
  rw [if_pos (by simp)]
theorem kit_ref {K : PySem.W.Frag} {C T : Addr} {b : Bool} (ne : (Value.ref C == Value.ref T) = false) (hd : PySem.W.hasDictIn K T = true) (ht : PySem.W.typeIn K (.ref T) = some (.type "type")) (h : PySem.W.subIn K (.ref C) (.ref T) = some b) : PySem.W.kitOne K (.ref C) (.ref T) = some b := by
  obtain ⟨cd, hc, _⟩ := PySem.W.any_some hd
  unfold PySem.W.kitOne
  rw [ne, if_neg Bool.false_ne_true]
  have e2 : ((PySem.W.clsIn K T).isSome && PySem.W.typeIn K (.ref T) == some (.type "type")) = true := by rw [hc, ht] <;> rfl
  show (if ((PySem.W.clsIn K T).isSome && PySem.W.typeIn K (.ref T) == some (.type "type")) = true then PySem.W.subIn K (.ref C) (.ref T) else none) = some b
  rw [if_pos e2]; exact h
theorem kit_VE {K : PySem.W.Frag} {C : Addr} (h : PySem.W.subIn K (.ref C) (.type "ValueError") = some true) : PySem.W.kitOne K (.ref C) (.type "ValueError") = some true := by
  unfold PySem.W.kitOne
  have ne : (Value.ref C == Value.type "ValueError") = false := rfl
  rw [ne, if_neg Bool.false_ne_true]
  show (if PySem.W.kitMeta "ValueError" = true then PySem.W.subIn K (.ref C) (.type "ValueError") else none) = some true
  rw [if_pos (by decide +kernel)]; exact h
/-! ### the lists that evened makes -/
theorem srtN_eq {a b : List Nat} (ha : a.Pairwise (· < ·)) (hb : b.Pairwise (· < ·)) (h : ∀ c, c ∈ a ↔ c ∈ b) : a = b := by
  have na : a.Nodup := List.Pairwise.imp (fun h e => by subst e; omega) ha
  have nb : b.Nodup := List.Pairwise.imp (fun h e => by subst e; omega) hb
  have hp := (List.perm_ext_iff_of_nodup na nb).mpr h
  exact hp.eq_of_pairwise (le := fun x y : Nat => x < y) (fun x y _ _ h1 h2 => by omega) ha hb
theorem fullN_srt (ps : List Pl) : (fullN ps).Pairwise (· < ·) := List.pairwise_lt_range.filter _
theorem fullN_mem {ps : List Pl} {p : Nat} : p ∈ fullN ps ↔ fullAt ps p = true := by
  unfold fullN
  rw [List.mem_filter]
  constructor
  · exact fun h => h.2
  · intro h
    refine ⟨?_, h⟩
    unfold fullAt at h
    split at h
    · rename_i u hu
      simpa using (List.getElem?_eq_some_iff.mp hu).1
    · cases h
theorem csM_fst (ps : List Pl) (f z : Nat) : (csM ps f z).map (·.1) = (fullN ps).filter fun p => decide (f ≤ p ∧ p < f + z) := by
  unfold csM cells
  rw [List.filter_map, List.map_map]
  first | done | simp [Function.comp_def]
theorem places_eq {ps : List Pl} {f z : Nat} (h : f + z ≤ ps.length) : (List.range z).filterMap (fun i => if fullAt ps (f + i) = true then some (f + i) else none) = (csM ps f z).map (·.1) := by
  rw [csM_fst]
  have e : (List.range z).filterMap (fun i => if fullAt ps (f + i) = true then some (f + i) else none) = ((List.range z).map (f + ·)).filter (fullAt ps) := by
    rw [← List.filterMap_eq_map, ← List.filterMap_eq_filter, List.filterMap_filterMap]
    congr 1
    try (funext i; by_cases h : fullAt ps (f + i) = true <;> simp [h, Option.guard])
  rw [e]
  refine srtN_eq ?_ ((fullN_srt ps).filter _) fun c => ?_
  · refine List.Pairwise.filter _ ?_
    rw [List.pairwise_map]
    exact List.pairwise_lt_range.imp fun h => by omega
  · simp only [List.mem_filter, List.mem_map, List.mem_range, fullN_mem, decide_eq_true_eq]
    constructor
    · rintro ⟨⟨i, hi, rfl⟩, h2⟩
      exact ⟨h2, by omega, by omega⟩
    · rintro ⟨h1, h2, h3⟩
      exact ⟨⟨c - f, by omega, by omega⟩, h1⟩
theorem csM_at {ps : List Pl} {f z : Nat} {c : Nat × Th} (h : c ∈ csM ps f z) : ps[c.1]? = some (some c.2) ∧ plAt ps c.1 = some c.2 ∧ c.1 < ps.length ∧ f ≤ c.1 ∧ c.1 < f + z := by
  have h1 := (List.mem_filter.mp h).1
  have h2 := (List.mem_filter.mp h).2
  have e := ((cells_on ps).mem_iff c).mp h1
  simp at h2
  exact ⟨e, by simp [plAt, List.getD, e], (List.getElem?_eq_some_iff.mp e).1, h2.1, h2.2⟩
theorem aims_tgs (f z n : Nat) : (tgs (n : Int) (z : Int)).map (fun a => (f : Int) + a) = (aimsN f z n).map fun a : Nat => (a : Int) := by
  unfold tgs aimsN
  rw [List.map_map, List.map_map, Int.toNat_natCast]
  refine List.map_congr_left fun k _ => ?_
  simp [tg, aimAt, Function.comp_def]
theorem movesF_ev {ps : List Pl} {f z : Nat} {key : Int} : wrsOf ps (movesF (((csM ps f z).map fun c : Nat × Th => (c.1 : Int)).zip ((othersN ps f z key).map fun a : Nat => (a : Int)))) = trWs (evT ps f z key) := by
  have hz : (((csM ps f z).map fun c : Nat × Th => (c.1 : Int)).zip ((othersN ps f z key).map fun a : Nat => (a : Int))) = (((csM ps f z).zip (othersN ps f z key)).map goTr).map fun x : Tr => ((x.1 : Int), (x.2.1 : Int)) := by
    rw [List.map_map, List.zip_map]; rfl
  have ho : ∀ cs : Cs, (cs.map stay).filter onw = [] := fun cs => List.filter_eq_nil_iff.mpr fun x hx => by
    obtain ⟨c, _, rfl⟩ := List.mem_map.mp hx; simp [onw, stay]
  have hb : ∀ cs : Cs, (cs.map stay).filter bkw = [] := fun cs => List.filter_eq_nil_iff.mpr fun x hx => by
    obtain ⟨c, _, rfl⟩ := List.mem_map.mp hx; simp [bkw, stay]
  have e0 : trWs (evT ps f z key) = trWs (((csM ps f z).zip (othersN ps f z key)).map goTr) := by
    unfold trWs evT
    simp only [List.filter_append, ho, hb, List.nil_append, List.append_nil]
  rw [e0, hz]
  have hmem : ∀ x ∈ ((csM ps f z).zip (othersN ps f z key)).map goTr, plAt ps x.1 = some x.2.2 := by
    intro x hx
    obtain ⟨⟨c, a⟩, h, rfl⟩ := List.mem_map.mp hx
    exact (csM_at (List.of_mem_zip h).1).2.1
  generalize ((csM ps f z).zip (othersN ps f z key)).map goTr = T at *
  have hm : movesF (T.map fun x : Tr => ((x.1 : Int), (x.2.1 : Int))) = ((T.filter onw).reverse ++ T.filter bkw).map fun x => ((x.1 : Int), (x.2.1 : Int)) := by
    unfold movesF
    rw [List.filter_map, List.filter_map, List.map_append, List.map_reverse]
    have e1 : ((fun x : Mv => decide (x.1 < x.2)) ∘ fun x : Tr => ((x.1 : Int), (x.2.1 : Int))) = onw := by
      funext x; simp [onw]
    have e2 : ((fun x : Mv => decide (x.2 < x.1)) ∘ fun x : Tr => ((x.1 : Int), (x.2.1 : Int))) = bkw := by
      funext x; simp [bkw]
    rw [e1, e2]
  have hg : ∀ l : List Tr, (∀ x ∈ l, x ∈ T) → wrsOf ps (l.map fun x => ((x.1 : Int), (x.2.1 : Int))) = l.flatMap trW := by
    intro l
    induction l with
    | nil => intro _; rfl
    | cons x l ih =>
      intro h
      have e := hmem x (h x (by simp))
      have := ih fun y hy => h y (by simp [hy])
      unfold wrsOf at this ⊢
      simp only [List.map_cons, List.flatMap_cons, this]
      simp [trW, e]
  rw [hm, hg _ (fun x hx => by
    rcases List.mem_append.mp hx with h | h
    · exact (List.mem_filter.mp (List.mem_reverse.mp h)).1
    · exact (List.mem_filter.mp h).1)]
  unfold trWs
  rw [List.flatMap_append]
theorem atN_cs (ps : List Pl) (f z : Nat) (key : Int) : (((csM ps f z).map fun c : Nat × Th => (c.1 : Int)).filter fun p => lessAt ps key p.toNat).length = atN ps f z key := by
  unfold atN
  rw [List.filter_map, List.length_map]
  congr 1
  refine List.filter_congr fun c hc => ?_
  have := (csM_at hc).1
  simp [lessAt, this, lessC]
/-! ### where the seat lies -/
theorem seatN_spec (ps : List Pl) (key : Int) : ∀ n, n ≤ ps.length → (∀ p, p < n → lessAt ps key p = true → p ≤ seatN ps key n) ∧ (lessAt ps key (seatN ps key n) = true ∨ seatN ps key n = 0)
  | 0, _ => ⟨fun p hp => by omega, .inr rfl⟩
  | n + 1, h => by
    have ih := seatN_spec ps key n (by omega)
    unfold seatN
    split
    · rename_i hl
      exact ⟨fun p hp _ => by omega, .inl hl⟩
    · rename_i hl
      refine ⟨fun p hp hlp => ?_, ih.2⟩
      by_cases e : p = n
      · subst e; exact absurd hlp hl
      · exact ih.1 p (by omega) hlp
theorem cell_less {ps : List Pl} {key : Int} {c : Nat × Th} (h : c ∈ cells ps) : lessAt ps key c.1 = decide (c.2.1 < key) := by
  have e := ((cells_on ps).mem_iff c).mp h
  simp [lessAt, e]
theorem less_cell {ps : List Pl} {key : Int} {p : Nat} (h : lessAt ps key p = true) : ∃ t, (p, t) ∈ cells ps ∧ t.1 < key := by
  unfold lessAt at h
  split at h
  · rename_i t ht
    exact ⟨t, ((cells_on ps).mem_iff (p, t)).mpr ht, by simpa using h⟩
  · cases h
theorem cells_key_lt {ps : List Pl} (h : Rises (things ps)) {c d : Nat × Th} (hc : c ∈ cells ps) (hd : d ∈ cells ps) (hcd : c.1 < d.1) : c.2.1 < d.2.1 := by
  obtain ⟨i, hi, rfl⟩ := List.mem_iff_getElem.mp hc
  obtain ⟨j, hj, rfl⟩ := List.mem_iff_getElem.mp hd
  rcases Nat.lt_trichotomy i j with h1 | h1 | h1
  · exact List.pairwise_iff_getElem.mp (cells_keys h) i j hi hj h1
  · subst h1; omega
  · have := List.pairwise_iff_getElem.mp (cells_on ps).srt j i hj hi h1; omega
/-- a stretch with the seat in it may be evened -/
theorem evOk_of {ps : List Pl} {f z : Nat} {key : Int} (hr : Rises (things ps)) (hl : f + z ≤ ps.length) (hm : (csM ps f z).length + 1 ≤ z) (hn : ∀ t ∈ things ps, t.1 ≠ key) (h1 : f ≤ seatN ps key ps.length) (h2 : seatN ps key ps.length < f + z) : EvOk ps f z key := by
  have sp := seatN_spec ps key ps.length (Nat.le_refl _)
  refine ⟨hr, hl, hm, fun c hc => ?_, fun c hc => ?_, hn⟩
  · have hc1 := (List.mem_filter.mp hc).1
    have hc2 := (List.mem_filter.mp hc).2
    simp at hc2
    rcases sp.2 with h | h
    · obtain ⟨t, ht, hk⟩ := less_cell h
      have := cells_key_lt hr hc1 ht (by simp; omega)
      simp at this; omega
    · omega
  · have hc1 := (List.mem_filter.mp hc).1
    have hc2 := (List.mem_filter.mp hc).2
    simp at hc2
    have hlt := (cells_on ps).lt hc1
    have hne : c.2.1 ≠ key := hn c.2 (by rw [← cells_things]; exact List.mem_map.mpr ⟨c, hc1, rfl⟩)
    refine Classical.byContradiction fun hcon => ?_
    have : lessAt ps key c.1 = true := by rw [cell_less hc1]; simp; omega
    have := sp.1 c.1 hlt this
    omega
theorem place_none {ps : List Pl} {key : Int} (h : placeN ps key = none) : ∀ t ∈ things ps, t.1 ≠ key := by
  intro t ht e
  unfold placeN at h
  rw [List.find?_eq_none] at h
  rw [← cells_things] at ht
  obtain ⟨c, hc, rfl⟩ := List.mem_map.mp ht
  have e1 := ((cells_on ps).mem_iff c).mp hc
  have := h c.1 (by simpa using (List.getElem?_eq_some_iff.mp e1).1)
  simp [keyAt, e1, e] at this
theorem place_some {ps : List Pl} {key : Int} {p : Nat} (h : placeN ps key = some p) : ∃ t, ps[p]? = some (some t) ∧ t.1 = key := by
  unfold placeN at h
  have := List.find?_some h
  unfold keyAt at this
  split at this
  · rename_i t ht; exact ⟨t, ht, by simpa using this⟩
  · cases this
/-- what a stretch holds -/
theorem things_take (ps : List Pl) (n : Nat) : things (ps.take n) = ((cells ps).filter fun c => decide (c.1 < n)).map (·.2) := by
  have : On ((cells ps).filter fun c => decide (c.1 < n)) (ps.take n) := by
    refine ⟨fun c hc => ?_, fun x hx hc => ?_, (cells_on ps).srt.filter _⟩
    · have h1 := (List.mem_filter.mp hc).1
      have h2 := (List.mem_filter.mp hc).2
      simp at h2
      refine ⟨Nat.zero_le _, ?_⟩
      rw [List.getElem?_take_of_lt (by omega)]
      exact ((cells_on ps).mem_iff c).mp h1
    · simp at hx
      rw [List.getElem?_take_of_lt (show x < _ by omega)]
      refine (cells_on ps).no x (by omega) fun c hc' e => ?_
      refine hc c (List.mem_filter.mpr ⟨hc', by simp; omega⟩) e
  exact this.things
theorem things_drop_cells (ps : List Pl) (f : Nat) : things (ps.drop f) = ((cells ps).filter fun c => decide (f ≤ c.1)).map (·.2) := by
  have h1 : things ps = things (ps.take f) ++ things (ps.drop f) := by rw [← things_app, List.take_append_drop]
  have h2 := filter_le_split (fun c : Nat × Th => c.1) (cells ps) f (cells_on ps).srt
  have h3 := congrArg (List.map (·.2)) h2
  rw [cells_things, List.map_append, ← things_take, h1] at h3
  exact List.append_cancel_left h3
theorem things_stretch (ps : List Pl) (f z : Nat) : things ((ps.take (f + z)).drop f) = (csM ps f z).map (·.2) := by
  rw [things_drop_cells]
  have hc : cells (ps.take (f + z)) = (cells ps).filter fun c => decide (c.1 < f + z) := by
    refine (On.cells ?_).symm
    refine ⟨fun c hc => ?_, fun x hx hc => ?_, (cells_on ps).srt.filter _⟩
    · have h1 := (List.mem_filter.mp hc).1
      have h2 := (List.mem_filter.mp hc).2
      simp at h2
      refine ⟨Nat.zero_le _, ?_⟩
      rw [List.getElem?_take_of_lt (by omega)]
      exact ((cells_on ps).mem_iff c).mp h1
    · simp at hx
      rw [List.getElem?_take_of_lt (show x < _ by omega)]
      refine (cells_on ps).no x (by omega) fun c hc' e => ?_
      refine hc c (List.mem_filter.mpr ⟨hc', by simp; omega⟩) e
  rw [hc, List.filter_filter]
  unfold csM
  congr 1
  apply List.filter_congr; intro c _; simp
/-! ### the stretch of a height -/
theorem szI_split {w : Int} {l h : Nat} (hl : l ≤ h) : szI w h = 2 ^ (h - l) * szI w l := by
  unfold szI
  rw [← Int.mul_assoc, ← Int.pow_add, show h - l + l = h by omega]
theorem stretch_in {w p : Int} {l h : Nat} (hl : l ≤ h) (hh : h ≤ 10) (h1 : 1 ≤ w) (h2 : w ≤ 1000) (hp : 0 ≤ p) (hp2 : p < szI w h) :
    0 ≤ fstI w l p ∧ fstI w l p ≤ p ∧ p < fstI w l p + szI w l ∧ fstI w l p + szI w l ≤ szI w h := by
  have hz := szI_pos (w := w) (l := l) (by omega) h1 h2
  have h0 := fstI_nonneg (p := p) (l := l) (by omega) h1 h2 hp
  have a1 : p / szI w l * szI w l ≤ p := Int.ediv_mul_le _ (by omega)
  have a2 : p < (p / szI w l + 1) * szI w l := Int.lt_ediv_add_one_mul_self _ (by omega)
  rw [Int.add_mul, Int.one_mul] at a2
  refine ⟨h0, a1, a2, ?_⟩
  have a3 : p / szI w l < 2 ^ (h - l) := Int.ediv_lt_of_lt_mul (by omega) (by rw [← szI_split hl]; exact hp2)
  have a4 : (p / szI w l + 1) * szI w l ≤ 2 ^ (h - l) * szI w l := Int.mul_le_mul_of_nonneg_right (by omega) (by omega)
  rw [← szI_split hl, Int.add_mul, Int.one_mul] at a4
  exact a4
def fN (ps : List Pl) (w : Int) (l : Nat) (key : Int) : Nat := (fstI w l (seatN ps key ps.length)).toNat
def zN (w : Int) (l : Nat) : Nat := (szI w l).toNat
theorem seat_lt {ps : List Pl} {key : Int} (h : 0 < ps.length) : seatN ps key ps.length < ps.length := seatN_lt ps key _ h
structure Geo (ps : List Pl) (w : Int) (h : Nat) : Prop where
  len : (ps.length : Int) = szI w h
  h10 : h ≤ 10
  w1 : 1 ≤ w
  w2 : w ≤ 1000
theorem Geo.pos {ps : List Pl} {w : Int} {h : Nat} (g : Geo ps w h) : 0 < ps.length := by
  have := szI_pos (w := w) (l := h) g.h10 g.w1 g.w2
  have := g.len; omega
theorem Geo.st {ps : List Pl} {w : Int} {h l : Nat} (g : Geo ps w h) (hl : l ≤ h) (key : Int) : ((fN ps w l key : Nat) : Int) = fstI w l (seatN ps key ps.length) ∧ ((zN w l : Nat) : Int) = szI w l ∧ 1 ≤ zN w l ∧ fN ps w l key ≤ seatN ps key ps.length ∧ seatN ps key ps.length < fN ps w l key + zN w l ∧ fN ps w l key + zN w l ≤ ps.length := by
  have hs := seat_lt (key := key) g.pos
  have hz := szI_pos (w := w) (l := l) (Nat.le_trans hl g.h10) g.w1 g.w2
  obtain ⟨a, b, c, d⟩ := stretch_in (p := (seatN ps key ps.length : Int)) hl g.h10 g.w1 g.w2 (by omega) (by rw [← g.len]; omega)
  have := g.len
  unfold fN zN
  refine ⟨by omega, by omega, by omega, by omega, by omega, by omega⟩
theorem heldI_eq {ps : List Pl} {w : Int} {h l : Nat} (g : Geo ps w h) (hl : l ≤ h) (key : Int) : heldI ps w (seatN ps key ps.length) l = (csM ps (fN ps w l key) (zN w l)).length := by
  obtain ⟨e1, e2, _⟩ := g.st hl key
  have e3 : (fstI w l (seatN ps key ps.length) + szI w l).toNat = fN ps w l key + zN w l := by omega
  unfold heldI
  rw [e3, show (fstI w l (seatN ps key ps.length)).toNat = fN ps w l key from rfl, things_stretch, List.length_map]
def capI (w s : Int) (l : Nat) : Int := 2 ^ l * (w - s * l)
theorem cap_le {w s : Int} {l : Nat} (hs : 0 ≤ s) : capI w s l ≤ szI w l := by
  unfold capI szI
  have h1 : (0 : Int) ≤ 2 ^ l := by exact_mod_cast Nat.zero_le _
  exact Int.mul_le_mul_of_nonneg_left (by have := Int.mul_nonneg hs (show (0 : Int) ≤ l by omega); omega) h1
/-- the least height with room, and that it has -/
theorem low_room {ps : List Pl} {w s p : Int} {h : Nat} (hh : roomAt ps w s p h = true) : lowN ps w s p h ≤ h ∧ roomAt ps w s p (lowN ps w s p h) = true ∧ ∀ j, j < lowN ps w s p h → roomAt ps w s p j = false := by
  cases e : (List.range h).find? (roomAt ps w s p) with
  | none =>
    have e1 : lowN ps w s p h = h := by simp [lowN, e]
    rw [e1]
    rw [List.find?_eq_none] at e
    exact ⟨Nat.le_refl _, hh, fun j hj => by simpa using e j (by simpa using hj)⟩
  | some i =>
    have e1 : lowN ps w s p h = i := by simp [lowN, e]
    rw [e1]
    rw [List.find?_range_eq_some] at e
    obtain ⟨h1, h2, h3⟩ := e
    simp at h2
    exact ⟨by omega, h1, fun j hj => by simpa using h3 j hj⟩
def lowK (ps : List Pl) (w s : Int) (h : Nat) (key : Int) : Nat := lowN ps w s (seatN ps key ps.length) h
def putW (ps : List Pl) (w s : Int) (h : Nat) (key am : Int) : Option (List Wr) := match placeN ps key with
  | some p => some [((p : Int), some (key, am))]
  | none => if ((things ps).length : Int) < capI w s h then some (evW ps (fN ps w (lowK ps w s h key) key) (zN w (lowK ps w s h key)) key am) else none
theorem top_all {ps : List Pl} {w : Int} {h : Nat} (g : Geo ps w h) (key : Int) : fN ps w h key = 0 ∧ zN w h = ps.length := by
  obtain ⟨e1, e2, e3, e4, e5, e6⟩ := g.st (Nat.le_refl h) key
  have := g.len
  constructor <;> omega
theorem csM_all (ps : List Pl) : csM ps 0 ps.length = cells ps := by
  unfold csM
  rw [List.filter_eq_self]
  intro c hc
  have := (cells_on ps).lt hc
  simp; omega
theorem room_top {ps : List Pl} {w s : Int} {h : Nat} (g : Geo ps w h) (key : Int) : roomAt ps w s (seatN ps key ps.length) h = decide (((things ps).length : Int) < capI w s h) := by
  unfold roomAt
  rw [heldI_eq g (Nat.le_refl h) key, (top_all g key).1, (top_all g key).2, csM_all, ← cells_things, List.length_map]
  rfl
structure Evens (ps : List Pl) (w s : Int) (h : Nat) (key : Int) : Prop where
  lh : lowK ps w s h key ≤ h
  ok : EvOk ps (fN ps w (lowK ps w s h key) key) (zN w (lowK ps w s h key)) key
  room : ((csM ps (fN ps w (lowK ps w s h key) key) (zN w (lowK ps w s h key))).length : Int) < capI w s (lowK ps w s h key)
  full : ∀ j, j < lowK ps w s h key → capI w s j ≤ ((csM ps (fN ps w j key) (zN w j)).length : Int)
theorem evens_of {ps : List Pl} {w s : Int} {h : Nat} {key : Int} (g : Geo ps w h) (hs : 0 ≤ s) (hr : Rises (things ps)) (hp : placeN ps key = none) (hc : ((things ps).length : Int) < capI w s h) : Evens ps w s h key := by
  have hrt : roomAt ps w s (seatN ps key ps.length) h = true := by rw [room_top g]; exact decide_eq_true hc
  obtain ⟨l1, l2, l3⟩ := low_room hrt
  change lowK ps w s h key ≤ h at l1
  change roomAt ps w s (seatN ps key ps.length) (lowK ps w s h key) = true at l2
  change ∀ j, j < lowK ps w s h key → _ at l3
  obtain ⟨e1, e2, e3, e4, e5, e6⟩ := g.st l1 key
  have hroom : ((csM ps (fN ps w (lowK ps w s h key) key) (zN w (lowK ps w s h key))).length : Int) < capI w s (lowK ps w s h key) := by
    unfold roomAt at l2
    rw [heldI_eq g l1 key] at l2
    simpa [capI] using l2
  have hcap := cap_le (w := w) (l := lowK ps w s h key) hs
  refine ⟨l1, evOk_of hr e6 (by omega) (place_none hp) e4 e5, hroom, fun j hj => ?_⟩
  have := l3 j hj
  unfold roomAt at this
  rw [heldI_eq g (by omega) key] at this
  simpa [capI] using this
/-! ### evened, a put, a take -/
abbrev wrL (S : Store) (ws : List Wr) : Store := S ++ [wrp ws]
def sp_evened : SPf
  | [.tup [.int _, .int w, .int s], .int l, .ref n, .int key, .int am], S, Q, _ => ∃ ps h, S[n]? = some (shp ps) ∧ ps.length ≤ 20000 ∧ Geo ps w h ∧ (0 ≤ l ∧ l.toNat ≤ h) ∧ Q (.ref S.length) (S ++ [wrp (evW ps (fN ps w l.toNat key) (zN w l.toNat) key am)])
  | _, _, _, _ => False
def sp_put_writes : SPf
  | [.tup [.int _, .int w, .int s], .int h, .ref n, .int key, .int am], S, Q, E => ∃ ps, S[n]? = some (shp ps) ∧ ps.length ≤ 20000 ∧ 0 ≤ h ∧ Geo ps w h.toNat ∧ match putW ps w s h.toNat key am with
    | some ws => Q (.ref S.length) (S ++ [wrp ws])
    | none => E "Full" S
  | _, _, _, _ => False
def sp_take_writes : SPf
  | [.ref n, .int key], S, Q, E => ∃ ps, S[n]? = some (shp ps) ∧ ps.length ≤ 20000 ∧ match placeN ps key with
    | some p => Q (.ref S.length) (S ++ [wrp [((p : Int), none)]])
    | none => E "NoKey" S
  | _, _, _, _ => False
theorem len_evened : ∀ ds S Q E, sp_evened ds S Q E → ds.length = 5 := by
  intro ds S Q E h; unfold sp_evened at h; split at h <;> first | rfl | exact h.elim
theorem len_put_writes : ∀ ds S Q E, sp_put_writes ds S Q E → ds.length = 5 := by
  intro ds S Q E h; unfold sp_put_writes at h; split at h <;> first | rfl | exact h.elim
theorem len_take_writes : ∀ ds S Q E, sp_take_writes ds S Q E → ds.length = 2 := by
  intro ds S Q E h; unfold sp_take_writes at h; split at h <;> first | rfl | exact h.elim
abbrev n_evened : List Str := ["bounds", "low", "shelf", "key", "amount", "first", "behind", "places", "place", "at", "aims", "aim", "moves"]
def w_evened : WS :=
  wsSeq (wsAsg (tT [5, 6]) (wCall sp_stretch_of [wVar 0, wVar 1, wCall sp_seat_of [wVar 2, wVar 3] []] [])) (wsSeq (wsSet 7 (wCompR2 [8] (tN 8) (wVar 5) (wVar 6) (wOp pNe (wOp pIx (wVar 2) (wVar 8)) (wTup [])) (wVar 8))) (wsSeq (wsSet 9 (wB bLen [wComp [8] (tN 8) (wVar 7) (wOp pLt (wOp pIx (wOp pIx (wVar 2) (wVar 8)) (ret (.int 0))) (wVar 3)) (wVar 8)])) (wsSeq (wsSet 10 (wComp [11] (tN 11) (wCall sp_targets [wOp pAdd (wB bLen [wVar 7]) (ret (.int 1)), wOp pSub (wVar 6) (wVar 5)] []) (wYes) (wOp pAdd (wVar 5) (wVar 11)))) (wsSeq (wsSet 12 (wCall sp_moves_of [wVar 7, wOp pAdd (wSl (wVar 10) none (some (wVar 9))) (wSl (wVar 10) (some (wOp pAdd (wVar 9) (ret (.int 1)))) none)] [])) (wsRet (wOp pAdd (wCall sp_writes_of [wVar 2, wVar 12] []) (wLst [wTup [wOp pIx (wVar 10) (wVar 9), wTup [wVar 3, wVar 4]]])))))))

abbrev n_put_writes : List Str := ["bounds", "height", "shelf", "key", "amount", "place"]
def w_put_writes : WS :=
  wsSeq (wsSet 5 (wCall sp_place_of [wVar 2, wVar 3] [])) (wsSeq (wsIf (wOp1 pNotN (wVar 5)) (wsRet (wLst [wTup [wVar 5, wTup [wVar 3, wVar 4]]])) (wsNil)) (wsSeq (wsIf (wOp pGe (wCall sp_held [wVar 2, ret (.int 0), wB bLen [wVar 2]] []) (wCall sp_cap_of [wVar 0, wVar 1] [])) (wsRaise "Full") (wsNil)) (wsRet (wCall sp_evened [wVar 0, wCall sp_height_for [wVar 0, wVar 1, wVar 2, wVar 3] [], wVar 2, wVar 3, wVar 4] []))))

abbrev n_take_writes : List Str := ["shelf", "key", "place"]
def w_take_writes : WS :=
  wsSeq (wsSet 2 (wCall sp_place_of [wVar 0, wVar 1] [])) (wsSeq (wsIf (wOp1 pIsN (wVar 2)) (wsRaise "NoKey") (wsNil)) (wsRet (wLst [wTup [wVar 2, wTup []]])))

/-- the lists that evened makes -/
def plL (ps : List Pl) (f z : Nat) : List Int := (csM ps f z).map fun c : Nat × Th => (c.1 : Int)
def aimL (f z n : Nat) : List Int := (aimsN f z n).map fun a : Nat => (a : Int)
def othL (ps : List Pl) (f z : Nat) (key : Int) : List Int := (othersN ps f z key).map fun a : Nat => (a : Int)
theorem plL_len (ps : List Pl) (f z : Nat) : (plL ps f z).length = (csM ps f z).length := by simp [plL]
theorem aimL_len (f z n : Nat) : (aimL f z n).length = n := by simp [aimL, aimsN]
theorem othL_eq (ps : List Pl) (f z : Nat) (key : Int) : othL ps f z key = (aimL f z ((csM ps f z).length + 1)).take (atN ps f z key) ++ (aimL f z ((csM ps f z).length + 1)).drop (atN ps f z key + 1) := by
  unfold othL aimL othersN
  rw [List.map_append, List.map_take, List.map_drop]
theorem ev_ws (ps : List Pl) (f z : Nat) (key : Int) : wrsOf ps (movesF ((plL ps f z).zip (othL ps f z key))) = trWs (evT ps f z key) := movesF_ev
theorem aimL_at (ps : List Pl) (f z : Nat) (key : Int) : atI ((aimL f z ((csM ps f z).length + 1)).map D.int) (atN ps f z key : Nat) = some (.int (newAim ps f z key : Nat)) := by
  have hat := atN_le (ps := ps) (f := f) (z := z) (key := key)
  rw [atI_lt (by omega) (by simp [aimL_len]; omega)]
  simp [aimL, aimsN, newAim]
theorem aimL_tgs (f z n : Nat) : ((tgs (n : Int) (z : Int)).map D.int).map (fun d => match d with | .int a => D.int (f + a) | _ => .non) = (aimL f z n).map .int := by
  have := congrArg (List.map D.int) (aims_tgs f z n)
  unfold aimL
  rw [← this, List.map_map, List.map_map]
  rfl
/-- the places of a stretch, as a comprehension makes them -/
theorem comp_stretch {n i sh : Nat} {ps : List Pl} {f z : Nat} {ρ : DEnv} {S : Store} {Q : PQ} (hs : S[n]? = some (shp ps)) (hl : f + z ≤ ps.length) (hsh : ∀ x, (ρ.set i x)[sh]? = some (some (.ref n))) (hi : i < ρ.length)
    (h : Q (.ref S.length) (S ++ [.lst ((plL ps f z).map .int)])) : compG (fun _ => True) (tN i) (wOp pNe (wOp pIx (wVar sh) (wVar i)) (wTup [])) (wVar i) (rangeD (f : Int) z) [] ρ S Q := by
  refine comp_range (fun j => if fullAt ps (f + j) then some (.int ((f + j : Nat) : Int)) else none) (fun j hj N hN => ?_) ?_
  · have hj2 : f + j < ps.length := by omega
    have e := pl_at (ps := ps) (i := f + j) hj2
    have e3 : fullAt ps (f + j) = ps[f + j].isSome := by
      unfold fullAt
      rw [List.getElem?_eq_getElem hj2]
      cases ps[f + j] <;> rfl
    have hv : ∀ d, (ρ.set i d)[i]? = some d := fun d => by simp [hi]
    have e4 : ((f : Int) + (j : Int)) = ((f + j : Nat) : Int) := by omega
    rw [e4]
    simp [-Int.natCast_add, hsh, hv, hs, e]
    rw [e3] at hN
    cases e2 : ps[f + j] with
    | none => simpa [-Int.natCast_add, e2] using hN
    | some u => simpa [-Int.natCast_add, e2] using hN
  · have e : (List.range z).filterMap (fun j => if fullAt ps (f + j) = true then some (D.int ((f + j : Nat) : Int)) else none) = (plL ps f z).map .int := by
      have := congrArg (List.map fun p : Nat => D.int (p : Int)) (places_eq hl)
      rw [List.map_map, List.map_filterMap] at this
      unfold plL
      rw [List.map_map]
      refine Eq.trans ?_ this
      congr 1
      funext j
      by_cases h : fullAt ps (f + j) = true <;> simp [h]
    rw [e]; exact h
theorem lessAt_at {ps : List Pl} {c : Nat × Th} {f z : Nat} {key : Int} (h : c ∈ csM ps f z) : lessAt ps key c.1 = decide (c.2.1 < key) := cell_less (List.mem_filter.mp h).1
/-- those ahead of the key, among the stretch's places -/
theorem comp_ahead {n m i sh kv : Nat} {ps : List Pl} {f z : Nat} {key : Int} {ρ : DEnv} {S : Store} {Q : PQ} (hm : S[m]? = some (.lst ((plL ps f z).map .int))) (hs : S[n]? = some (shp ps)) (hsh : ∀ x, (ρ.set i x)[sh]? = some (some (.ref n))) (hk : ∀ x, (ρ.set i x)[kv]? = some (some (.int key))) (hi : i < ρ.length)
    (h : ∀ ds : List D, ds.length = atN ps f z key → Q (.ref S.length) (S ++ [.lst ds])) : compG (atL m ((plL ps f z).map .int)) (tN i) (wOp pLt (wOp pIx (wOp pIx (wVar sh) (wVar i)) (ret (.int 0))) (wVar kv)) (wVar i) ((plL ps f z).map .int) [] ρ S Q := by
  refine comp_pure (fun x => match x with | .int p => if lessAt ps key p.toNat then some (.int p) else none | _ => none) hm (fun x hx N hN => ?_) ?_
  · obtain ⟨p, hp, rfl⟩ := List.mem_map.mp hx
    obtain ⟨c, hc, rfl⟩ := List.mem_map.mp hp
    obtain ⟨e1, e2, e3, _⟩ := csM_at hc
    have e := pl_at (ps := ps) (i := c.1) e3
    rw [List.getElem?_eq_getElem e3] at e1
    have e4 := Option.some.inj e1
    have hv : ∀ d, (ρ.set i d)[i]? = some d := fun d => by simp [hi]
    simp [lessAt_at hc] at hN
    simp [hsh, hk, hv, hs, e, e4, jx0]
    by_cases hlt : c.2.1 < key
    · exact .inr ⟨hlt, by simpa [hlt] using hN⟩
    · exact .inl ⟨by omega, by simpa [hlt] using hN⟩
  · refine h _ ?_
    rw [← atN_cs, List.filterMap_map]
    show _ = ((plL ps f z).filter _).length
    generalize plL ps f z = l
    induction l with
    | nil => rfl
    | cons p l ih => by_cases hp : lessAt ps key p.toNat = true <;> simp [hp] at ih ⊢ <;> omega
theorem cut_to {α : Type} (f : α → D) (xs : List α) (k : Nat) : cutD (xs.map f) none (some (k : Int)) = (xs.take k).map f := by simpa using cutD_takeE f xs (b := (k : Int)) (by omega)
theorem cut_from {α : Type} (f : α → D) (xs : List α) (k : Nat) : cutD (xs.map f) (some (k : Int)) none = (xs.drop k).map f := by
  unfold cutD
  rw [HT.sIx_nat, HT.sIx_none, List.length_map, List.take_of_length_le (by simp), ← List.map_drop]
  by_cases h : k ≤ xs.length
  · rw [Nat.min_eq_left h]
  · rw [Nat.min_eq_right (by omega), List.drop_of_length_le (Nat.le_refl _), List.drop_of_length_le (by omega)]
theorem ob_evened : Ob n_evened sp_evened w_evened := by
  intro ds S Q E hS hd h
  unfold sp_evened at h
  split at h
  · rename_i t w s l n key am
    obtain ⟨ps, h, hn, hl, g, ⟨hl0, hlh⟩, hq⟩ := h
    obtain ⟨e1, e2, e3, e4, e5, e6⟩ := g.st hlh key
    have hh := g.h10
    have w1 := g.w1
    have w2 := g.w2
    have hz4 : (100000 : Nat) ≤ sizeLine := by decide
    simp [w_evened, startD, sp_seat_of, sp_stretch_of, setAll, hn, e_compR2]
    refine ⟨ps, rfl, by omega, ⟨hl0, by omega, w1, w2⟩, ?_⟩
    rw [show (seatN ps key ps.length : Int) / (2 ^ l.toNat * w) * (2 ^ l.toNat * w) = ((fN ps w l.toNat key : Nat) : Int) from e1.symm, show (2 : Int) ^ l.toNat * w = ((zN w l.toNat : Nat) : Int) from e2.symm]
    generalize fN ps w l.toNat key = f at *
    generalize zN w l.toNat = z at *
    rw [show (f : Int) + (z : Int) - (f : Int) = (z : Int) by omega, Int.toNat_natCast]
    refine ⟨by omega, comp_stretch (n := n) (sh := 2) hn e6 (by simp) (by simp) ?_⟩
    have hml : (csM ps f z).length ≤ ps.length := by
      have h1 := List.length_filter_le (fun c : Nat × Th => decide (f ≤ c.1 ∧ c.1 < f + z)) (cells ps)
      have h2 : (cells ps).length = (things ps).length := by rw [← cells_things, List.length_map]
      have h3 := things_le ps
      unfold csM; omega
    have hpl := plL_len ps f z
    have hat := atN_le (ps := ps) (f := f) (z := z) (key := key)
    have hal := aimL_len f z ((csM ps f z).length + 1)
    refine ⟨_, rfl, _, get_at, comp_ahead (n := n) (ps := ps) (f := f) (z := z) (key := key) (sh := 2) (kv := 3) get_at (app_get hn) (by simp) (by simp) (by simp) fun ds hds => ?_⟩
    have ez : (f : Int) + (z : Int) - (f : Int) = (z : Int) := by omega
    have em : ((csM ps f z).length : Int) + 1 = (((csM ps f z).length + 1 : Nat) : Int) := by omega
    simp [sp_targets, hpl, hds, ez]
    rw [em]
    generalize hM : (csM ps f z).length + 1 = M at *
    generalize hA : atN ps f z key = A at *
    refine ⟨by omega, _, by rw [atL, atn]; rfl, comp_listY (fun d => match d with | .int a => .int (f + a) | _ => .non) (by rw [atn]; rfl) (fun x hx N hN => ?_) ?_⟩
    · obtain ⟨a, _, rfl⟩ := List.mem_map.mp hx
      simpa using hN
    · rw [aimL_tgs]
      have eA : (A : Int) + 1 = ((A + 1 : Nat) : Int) := by omega
      have eo := othL_eq ps f z key
      rw [hM, hA] at eo
      simp [atn, eA, -Int.natCast_add]
      rw [cut_to, cut_from, ← List.map_append, ← eo]
      have hol : (othL ps f z key).length = (csM ps f z).length := by unfold othL; rw [List.length_map, othersN_length]
      have hll := congrArg List.length eo
      rw [List.length_append] at hll
      have hms : ∀ x ∈ movesF ((plL ps f z).zip (othL ps f z key)), 0 ≤ x.1 ∧ x.1 < ps.length := fun x hx => by
        have := (List.of_mem_zip (movesF_in hx)).1
        unfold plL at this
        obtain ⟨c, hc, e⟩ := List.mem_map.mp this
        have := (csM_at hc).2.2.1
        rw [← e]; omega
      have hml2 := movesF_len ((plL ps f z).zip (othL ps f z key))
      have hzl : ((plL ps f z).zip (othL ps f z key)).length ≤ (csM ps f z).length := by rw [List.length_zip]; omega
      have hws := ev_ws ps f z key
      have hla := aimL_at ps f z key
      rw [hM, hA] at hla
      refine ⟨by rw [List.length_map, List.length_map]; omega, plL ps f z, othL ps f z key, get_at, by rw [atn]; rfl, by omega, ?_⟩
      refine ⟨ps, _, by rw [app_get]; exact app_get hn, get_at, hms, by omega, ?_⟩
      have hwl := wrsOf_len ps (movesF ((plL ps f z).zip (othL ps f z key)))
      rw [hws] at hwl ⊢
      have fin : ∀ (G : Store) (k : Nat) (c : Cell), G[k]? = some c → c = wrp (evW ps f z key am) → RetQ S.length Q (.ref (S.length + k)) (S ++ G) := fun G k c h1 h2 => by
        subst h2
        exact ret_list hS (fun i hi => by rw [List.getElem?_append_left hi]) (by rw [atn]; exact h1) (by omega) (cls_map eWr _ _) hq
      simp only [List.append_assoc, List.cons_append, List.nil_append, List.length_append, List.length_cons, List.length_nil]
      refine ⟨_, by rw [atn]; rfl, _, hla, ?_⟩
      refine ⟨_, _, by rw [atn]; rfl, by rw [atn]; rfl, ?_, ?_⟩
      · simp; omega
      · simp only [List.append_assoc, List.cons_append, List.nil_append, List.length_append, List.length_cons, List.length_nil, Nat.add_assoc, Nat.zero_add]
        refine fin _ 10 _ rfl ?_
        show Cell.lst _ = Cell.lst _
        rw [evW, List.map_append]
        rfl
  · exact h.elim
theorem held_all (ps : List Pl) : things ((ps.take ps.length).drop 0) = things ps := by simp
theorem evT_len (ps : List Pl) (f z : Nat) (key am : Int) : True := trivial
theorem ob_put_writes : Ob n_put_writes sp_put_writes w_put_writes := by
  intro ds S Q E hS hd h
  unfold sp_put_writes at h
  split at h
  · rename_i t w s h n key am
    obtain ⟨ps, hn, hl, h0, g, hq⟩ := h
    have h10 := g.h10
    have w1 := g.w1
    have w2 := g.w2
    simp [w_put_writes, startD, sp_place_of, hn]
    refine ⟨ps, rfl, by omega, ?_⟩
    unfold putW at hq
    cases hp : placeN ps key with
    | some p =>
      rw [hp] at hq
      simp [optI, isNon]
      exact ret_any (by simpa [wrp, ePl] using hq)
    | none =>
      rw [hp] at hq
      simp [optI, isNon, sp_held, sp_cap_of, hn]
      refine ⟨ps, rfl, ⟨h0, by omega⟩, ?_⟩
      rw [List.take_length]
      have hc : (2 : Int) ^ h.toNat * (w - s * h) = capI w s h.toNat := by unfold capI; rw [Int.toNat_of_nonneg h0]
      rw [hc]
      by_cases hlt : ((things ps).length : Int) < capI w s h.toNat
      · simp only [if_pos hlt] at hq
        refine .inl ⟨hlt, ps, ⟨hn, by omega, ⟨h0, by omega, w1, w2⟩, ?_⟩⟩
        simp [sp_evened, hn]
        refine ⟨ps, rfl, hl, h.toNat, g, ?_, ret_any (by simpa [lowK] using hq)⟩
        unfold lowN
        cases e : (List.range h.toNat).find? (roomAt ps w s (seatN ps key ps.length)) with
        | none => simp
        | some i =>
          have := List.mem_range.mp (List.mem_of_find?_eq_some e)
          simp; omega
      · simp only [if_neg hlt] at hq
        exact .inr ⟨by omega, .inl hq⟩
  · exact h.elim
theorem ob_take_writes : Ob n_take_writes sp_take_writes w_take_writes := by
  intro ds S Q E hS hd h
  unfold sp_take_writes at h
  split at h
  · rename_i n key
    obtain ⟨ps, hn, hl, hq⟩ := h
    simp [w_take_writes, startD, sp_place_of, hn]
    refine ⟨ps, rfl, by omega, ?_⟩
    cases hp : placeN ps key with
    | some p =>
      rw [hp] at hq
      simp [optI, isNon]
      exact ret_any (by simpa [wrp, ePl] using hq)
    | none =>
      rw [hp] at hq
      simp [optI, isNon]
      exact .inl hq
  · exact h.elim
/-! ### laid anew -/
def cw (c : Nat × Th) : Wr := ((c.1 : Int), some c.2)
theorem lay_all : ∀ (W A B : Cs) (s : List Pl), On (A ++ B) s → Srt (A ++ (W ++ B)) → (∀ c ∈ W, c.1 < s.length) → On (A ++ (W ++ B)) (doneP s (W.map cw))
  | [], A, B, s, h, _, _ => by simpa [doneP] using h
  | c :: W, A, B, s, h, hs, hl => by
    have h1 : On ((A ++ [c]) ++ B) (s.set c.1 (some c.2)) := by
      have hs' : Srt ((A ++ [c]) ++ B) := by
        obtain ⟨a1, a2, a3⟩ := Srt.app.mp hs
        obtain ⟨a4, a5⟩ := Srt.cons.mp a2
        obtain ⟨b1, b2, b3⟩ := Srt.app.mp a5
        rw [List.append_assoc]
        exact Srt.app.mpr ⟨a1, Srt.cons.mpr ⟨fun y hy => a4 y (List.mem_append_right _ hy), b2⟩, fun x hx y hy => a3 x hx y (by
          rcases List.mem_cons.mp hy with rfl | hy
          · exact List.mem_cons_self ..
          · exact List.mem_cons_of_mem _ (List.mem_append_right _ hy))⟩
      refine h.lay (cs' := (A ++ [c]) ++ B) (hl c (List.mem_cons_self ..)) (fun d hd => ?_) hs' fun d => ?_
      · rw [List.append_assoc] at hs'
        obtain ⟨a1, a2, a3⟩ := Srt.app.mp hs'
        obtain ⟨a4, a5⟩ := Srt.cons.mp a2
        rcases List.mem_append.mp hd with hd | hd
        · have := a3 d hd c (List.mem_cons_self ..); omega
        · have := a4 d hd; omega
      · simp only [List.mem_append, List.mem_cons, List.not_mem_nil, or_false]
        constructor
        · rintro ((h | h) | h)
          · exact .inl (.inl h)
          · exact .inr h
          · exact .inl (.inr h)
        · rintro ((h | h) | h)
          · exact .inl (.inl h)
          · exact .inr h
          · exact .inl (.inr h)
    have := lay_all W (A ++ [c]) B (s.set c.1 (some c.2)) h1 (by simpa using hs) fun d hd => by simpa using hl d (List.mem_cons_of_mem _ hd)
    simpa [doneP, cw] using this
theorem base_on {ps : List Pl} {f z : Nat} (h : f + z ≤ ps.length) : On (csL ps f ++ csR ps (f + z)) (ps.take f ++ (List.replicate z none ++ ps.drop (f + z))) := by
  have hlen : (ps.take f).length = f := by simp; omega
  have at1 : ∀ x, x < f → (ps.take f ++ (List.replicate z none ++ ps.drop (f + z)))[x]? = ps[x]? := fun x hx => by
    rw [List.getElem?_append_left (by omega), List.getElem?_take_of_lt hx]
  have at2 : ∀ x, f ≤ x → x < f + z → (ps.take f ++ (List.replicate z none ++ ps.drop (f + z)))[x]? = some none := fun x h1 h2 => by
    rw [List.getElem?_append_right (by omega), List.getElem?_append_left (by simp; omega), List.getElem?_replicate, if_pos (by omega)]
  have at3 : ∀ x, f + z ≤ x → (ps.take f ++ (List.replicate z none ++ ps.drop (f + z)))[x]? = ps[x]? := fun x h1 => by
    rw [List.getElem?_append_right (by omega), List.getElem?_append_right (by simp; omega), List.getElem?_drop]
    congr 1
    simp; omega
  refine ⟨fun c hc => ⟨Nat.zero_le _, ?_⟩, fun x hx hc => ?_, ?_⟩
  · rw [Nat.sub_zero]
    rcases List.mem_append.mp hc with hc | hc
    · have h1 := (List.mem_filter.mp hc).2
      simp at h1
      rw [at1 _ h1]
      exact ((cells_on ps).mem_iff c).mp (List.mem_filter.mp hc).1
    · have h1 := (List.mem_filter.mp hc).2
      simp at h1
      rw [at3 _ h1]
      exact ((cells_on ps).mem_iff c).mp (List.mem_filter.mp hc).1
  · have hx2 : x < ps.length := by simp at hx; omega
    rcases Nat.lt_or_ge x f with h1 | h1
    · rw [at1 _ h1]
      refine (cells_on ps).no x hx2 fun c hc' e => hc c (List.mem_append_left _ (List.mem_filter.mpr ⟨hc', by simp; omega⟩)) e
    · rcases Nat.lt_or_ge x (f + z) with h2 | h2
      · exact at2 _ h1 h2
      · rw [at3 _ h2]
        refine (cells_on ps).no x hx2 fun c hc' e => hc c (List.mem_append_right _ (List.mem_filter.mpr ⟨hc', by simp; omega⟩)) e
  · have := (cells_on ps).srt
    rw [cells_split ps f z] at this
    obtain ⟨a1, a2, a3⟩ := Srt.app.mp this
    obtain ⟨b1, b2, b3⟩ := Srt.app.mp a2
    exact Srt.app.mpr ⟨a1, b2, fun x hx y hy => a3 x hx y (List.mem_append_right _ hy)⟩
/-- the slab that an evening makes -/
def evS (ps : List Pl) (f z : Nat) (t : Th) : List Pl := doneP ps (evW ps f z t.1 t.2)
theorem evS_len (ps : List Pl) (f z : Nat) (t : Th) : (evS ps f z t).length = ps.length := doneP_len _ _
theorem evS_on {ps : List Pl} {f z : Nat} {key : Int} (h : EvOk ps f z key) (am : Int) : On (finC ps f z (key, am)) (evS ps f z (key, am)) := ev_done h am
theorem laid_eq {ps : List Pl} {f z : Nat} {key : Int} (h : EvOk ps f z key) (am : Int) :
    doneP (ps.take f ++ (List.replicate z none ++ ps.drop (f + z))) (((aimsN f z ((csM ps f z).length + 1)).zip (insTh ((csM ps f z).map (·.2)) (key, am))).map cw) = evS ps f z (key, am) := by
  have hl := h.len
  refine On.eq (cs := finC ps f z (key, am)) ?_ (evS_on h am) ?_
  · unfold finC
    refine lay_all _ _ _ _ (base_on hl) (finC_srt h am) fun c hc => ?_
    have := finC_lt h am c (List.mem_append_right _ (List.mem_append_left _ hc))
    simp; omega
  · rw [doneP_len, evS_len]; simp; omega
theorem insTh_perm (ts : List Th) (t : Th) : (insTh ts t).Perm (ts ++ [t]) := by
  unfold insTh
  have h1 : (ts.filter (fun u => decide (u.1 < t.1)) ++ ts.filter (fun u => !decide (u.1 < t.1))).Perm ts := List.filter_append_perm _ _
  refine (List.perm_middle).trans ?_
  exact (List.Perm.cons t h1).trans (List.perm_append_comm (l₁ := [t]) (l₂ := ts))
theorem insTh_rises {ts : List Th} {t : Th} (h : Rises ts) (hn : ∀ u ∈ ts, u.1 ≠ t.1) : Rises (insTh ts t) := by
  unfold Rises insTh at *
  rw [List.pairwise_append, List.pairwise_cons]
  refine ⟨h.filter _, ⟨fun u hu => ?_, h.filter _⟩, fun a ha b hb => ?_⟩
  · have h1 := List.mem_filter.mp hu
    have := hn u h1.1
    have := h1.2
    simp at this; omega
  · have h1 := List.mem_filter.mp ha
    simp at h1
    rcases List.mem_cons.mp hb with rfl | hb
    · exact h1.2
    · have h2 := List.mem_filter.mp hb
      simp at h2
      omega
/-- how often a thing lies -/
theorem count_pl (s : List Pl) (t : Th) : s.count (some t) = (things s).count t := by
  induction s with
  | nil => rfl
  | cons p s ih => cases p with
    | none => simpa [things, List.count_cons] using ih
    | some u =>
      have e : things (some u :: s) = u :: things s := rfl
      rw [e, List.count_cons, List.count_cons, ih]
      simp
theorem rises_count {l r : List Th} {t : Th} (h : Rises (l ++ t :: r)) : (l ++ t :: t :: r).count t = 2 := by
  unfold Rises at h
  rw [List.pairwise_append, List.pairwise_cons] at h
  have h1 : l.count t = 0 := List.count_eq_zero.mpr fun hm => by have := h.2.2 t hm t (List.mem_cons_self ..); omega
  have h2 : r.count t = 0 := List.count_eq_zero.mpr fun hm => by have := h.2.1.1 t hm; omega
  simp [List.count_append, h1, h2]
/-! ### how many are moved -/
theorem trWs_len (T : List Tr) : (trWs T).length = 2 * (T.filter fun x => decide (x.1 ≠ x.2.1)).length := by
  unfold trWs
  have h1 : ∀ l : List Tr, (l.flatMap trW).length = 2 * l.length := fun l => by
    induction l with
    | nil => rfl
    | cons x l ih => simp [trW] at ih ⊢; omega
  rw [List.length_append, h1, h1, List.length_reverse]
  have h2 : ∀ l : List Tr, (l.filter onw).length + (l.filter bkw).length = (l.filter fun x => decide (x.1 ≠ x.2.1)).length := fun l => by
    induction l with
    | nil => rfl
    | cons x l ih =>
      have e1 : onw x = decide (x.1 < x.2.1) := rfl
      have e2 : bkw x = decide (x.2.1 < x.1) := rfl
      rcases Nat.lt_trichotomy x.1 x.2.1 with h | h | h
      · have a : onw x = true := by rw [e1]; simpa using h
        have b : bkw x = false := by rw [e2]; simp; omega
        have c : decide (x.1 ≠ x.2.1) = true := by simp; omega
        simp only [List.filter_cons, a, b, c, if_true, List.length_cons, Bool.false_eq_true, if_false]; omega
      · have a : onw x = false := by rw [e1]; simp; omega
        have b : bkw x = false := by rw [e2]; simp; omega
        have c : decide (x.1 ≠ x.2.1) = false := by simp; omega
        simp only [List.filter_cons, a, b, c, Bool.false_eq_true, if_false]; omega
      · have a : onw x = false := by rw [e1]; simp; omega
        have b : bkw x = true := by rw [e2]; simpa using h
        have c : decide (x.1 ≠ x.2.1) = true := by simp; omega
        simp only [List.filter_cons, a, b, c, if_true, List.length_cons, Bool.false_eq_true, if_false]; omega
  have := h2 T; omega
theorem fin_keys {ps : List Pl} {f z : Nat} {key : Int} (h : EvOk ps f z key) (am : Int) : (finC ps f z (key, am)).Pairwise fun a b => a.2.1 < b.2.1 := by
  have h1 := insTh_rises (t := (key, am)) h.ris h.no
  unfold Rises at h1
  rw [← finC_things h am, List.pairwise_map] at h1
  exact h1
theorem srt_inj {cs : Cs} (h : cs.Pairwise fun a b => a.2.1 < b.2.1) {c d : Nat × Th} (hc : c ∈ cs) (hd : d ∈ cs) (e : c.2.1 = d.2.1) : c = d := by
  obtain ⟨i, hi, rfl⟩ := List.mem_iff_getElem.mp hc
  obtain ⟨j, hj, rfl⟩ := List.mem_iff_getElem.mp hd
  rcases Nat.lt_trichotomy i j with h1 | h1 | h1
  · have := List.pairwise_iff_getElem.mp h i j hi hj h1; omega
  · subst h1; rfl
  · have := List.pairwise_iff_getElem.mp h j i hj hi h1; omega
theorem evT_fin {ps : List Pl} {f z : Nat} {key : Int} (h : EvOk ps f z key) (am : Int) {c : Nat × Th} : c ∈ finC ps f z (key, am) ↔ c ∈ trA (evT ps f z key) ∨ c = (newAim ps f z key, (key, am)) := by
  obtain ⟨A1, A2, M1, M2, p⟩ := ev_part (f := f) (z := z) (key := key) h.ris
  rw [p.A, p.fin]
  simp only [List.mem_append, List.mem_cons]
  constructor
  · rintro ((h | h) | (h | h | h))
    · exact .inl (.inl (.inl h))
    · exact .inl (.inl (.inr h))
    · exact .inr h
    · exact .inl (.inr (.inl h))
    · exact .inl (.inr (.inr h))
  · rintro (((h | h) | (h | h)) | h)
    · exact .inl (.inl h)
    · exact .inl (.inr h)
    · exact .inr (.inr (.inl h))
    · exact .inr (.inr (.inr h))
    · exact .inr (.inl h)
def movedN (ps qs : List Pl) : Nat := ((fullN ps).filter fun p => decide (qs[p]? ≠ ps[p]?)).length
theorem evT_moved {ps : List Pl} {f z : Nat} {key : Int} (h : EvOk ps f z key) (am : Int) : ((evT ps f z key).filter fun x => decide (x.1 ≠ x.2.1)).length = movedN ps (evS ps f z (key, am)) := by
  have hP : (evT ps f z key).map (·.1) = fullN ps := by
    have e := congrArg (List.map (·.1)) (evT_P (ps := ps) (f := f) (z := z) (key := key))
    unfold trP cells at e
    rw [List.map_map, List.map_map] at e
    simpa [Function.comp_def] using e
  unfold movedN
  rw [← hP, List.filter_map, List.length_map]
  congr 1
  refine List.filter_congr fun x hx => ?_
  have on := evS_on h am
  have hxP : (x.1, x.2.2) ∈ cells ps := by rw [← evT_P (f := f) (z := z) (key := key)]; exact List.mem_map.mpr ⟨x, hx, rfl⟩
  have hxA : (x.2.1, x.2.2) ∈ finC ps f z (key, am) := (evT_fin h am).mpr (.inl (List.mem_map.mpr ⟨x, hx, rfl⟩))
  have e1 := ((cells_on ps).mem_iff _).mp hxP
  have e2 := (on.mem_iff _).mp hxA
  simp only [Function.comp]
  congr 1
  refine propext ⟨fun hne he => hne ?_, fun hne he => hne ?_⟩
  · rw [e1] at he
    have := (on.mem_iff (x.1, x.2.2)).mpr he
    have := srt_inj (fin_keys h am) this hxA rfl
    exact congrArg Prod.fst this
  · simp only at e1 e2
    rw [he, e2, ← e1, he]
theorem evW_len {ps : List Pl} {f z : Nat} {key : Int} (h : EvOk ps f z key) (am : Int) : (evW ps f z key am).length = 2 * movedN ps (evS ps f z (key, am)) + 1 := by
  unfold evW
  rw [List.length_append, trWs_len, evT_moved h am]; rfl
def sp_law_held : SPf
  | [.ref n, .int a, .int b], S, Q, _ => ∃ ps, S[n]? = some (shp ps) ∧ (0 ≤ a ∧ 0 ≤ b) ∧ Q (.int (things ((ps.take b.toNat).drop a.toNat)).length) S
  | _, _, _, _ => False
def sp_law_stretch : SPf
  | [.tup [.int _, .int w, .int s], .ref n, .int key], S, Q, _ => ∃ ps h, S[n]? = some (shp ps) ∧ ps.length ≤ 100000 ∧ (1 ≤ w ∧ w ≤ 1000) ∧ (0 ≤ s ∧ s ≤ 1000) ∧ h ≤ 4 ∧ roomAt ps w s (seatN ps key ps.length) h = true ∧ Q (.tup [.int (lowN ps w s (seatN ps key ps.length) h), .int (fstI w (lowN ps w s (seatN ps key ps.length) h) (seatN ps key ps.length)), .int (szI w (lowN ps w s (seatN ps key ps.length) h))]) S
  | _, _, _, _ => False
theorem len_law_held : ∀ ds S Q E, sp_law_held ds S Q E → ds.length = 3 := by
  intro ds S Q E h; unfold sp_law_held at h; split at h <;> first | rfl | exact h.elim
theorem len_law_stretch : ∀ ds S Q E, sp_law_stretch ds S Q E → ds.length = 3 := by
  intro ds S Q E h; unfold sp_law_stretch at h; split at h <;> first | rfl | exact h.elim
abbrev n_law_held : List Str := ["shelf", "first", "behind", "thing"]
def w_law_held : WS :=
  wsRet (wB bLen [wComp [3] (tN 3) (wSl (wVar 0) (some (wVar 1)) (some (wVar 2))) (wOp pNe (wVar 3) (wTup [])) (wVar 3)])
abbrev n_law_stretch : List Str := ["bounds", "shelf", "key", "seat", "place", "low", "size", "first"]
def w_law_stretch_r1 : WS :=
  wsSeq (wsSet 5 (ret (.int 0))) (wsSeq (wsSet 6 (wOp pIx (wVar 0) (ret (.int 1)))) (wsSeq (wsSet 7 (wOp pMul (wOp pDiv (wVar 3) (wVar 6)) (wVar 6))) (wsSeq (wsWhile (wOp pGe (wCall sp_law_held [wVar 1, wVar 7, wOp pAdd (wVar 7) (wVar 6)] []) (wOp pMul (wCall sp_law_two [wVar 5] []) (wOp pSub (wOp pIx (wVar 0) (ret (.int 1))) (wOp pMul (wVar 5) (wOp pIx (wVar 0) (ret (.int 2))))))) (wsSeq (wsSet 5 (wOp pAdd (wVar 5) (ret (.int 1)))) (wsSeq (wsSet 6 (wOp pMul (wVar 6) (ret (.int 2)))) (wsSet 7 (wOp pMul (wOp pDiv (wVar 3) (wVar 6)) (wVar 6)))))) (wsRet (wTup [wVar 5, wVar 7, wVar 6])))))
def w_law_stretch : WS :=
  wsSeq (wsSet 3 (ret (.int 0))) (wsSeq (wsForR1 (tN 4) (wB bLen [wVar 1]) (wsIf (wAnd (wOp pNe (wOp pIx (wVar 1) (wVar 4)) (wTup [])) (wOp pLt (wOp pIx (wOp pIx (wVar 1) (wVar 4)) (ret (.int 0))) (wVar 2))) (wsSet 3 (wVar 4)) (wsNil))) (w_law_stretch_r1))
theorem ob_law_held : Ob n_law_held sp_law_held w_law_held := ob_held
theorem szI_next (w : Int) (l : Nat) : szI w (l + 1) = szI w l * 2 := by
  unfold szI; rw [Int.pow_succ, Int.mul_assoc, Int.mul_comm 2 w, ← Int.mul_assoc]
theorem good_cap {t w s h : Int} (g : Good t w s) (h0 : 0 ≤ h) (h1 : h ≤ t) : 2 * s ≤ w - s * h := by
  obtain ⟨g1, g2, g3, g4, g5, g6⟩ := g
  have : s * (h + 2) ≤ s * (t + 2) := Int.mul_le_mul_of_nonneg_left (by omega) (by omega)
  rw [Int.mul_add] at this
  omega
theorem ob_law_stretch : Ob n_law_stretch sp_law_stretch w_law_stretch := by
  intro ds S Q E hS hd h
  unfold sp_law_stretch at h
  split at h
  · rename_i t w s n key
    obtain ⟨ps, h, hn, hl, ⟨h2, h3⟩, ⟨s0, s1⟩, h4, hr, hq⟩ := h
    simp [w_law_stretch, startD, hn]
    refine ⟨by omega, ?_⟩
    refine loop_range (fun i ρ S' => S' = S ∧ ∃ x, ρ = [some (bnd t w s), some (.ref n), some (.int key), some (.int (seatN ps key i)), x, none, none, none]) ⟨rfl, none, rfl⟩ ?_ ?_
    · rintro i ρ S' N hi ⟨rfl, x, rfl⟩ hN
      have e := pl_at (ps := ps) (i := i) hi
      have fin := hN _ _ ⟨rfl, some (.int i), rfl⟩
      simp [hn, e]
      cases e2 : ps[i] with
      | none =>
        simp
        simpa [seatN, lessAt, List.getElem?_eq_getElem hi, e2] using fin
      | some t =>
        simp [jx0]
        by_cases h : t.1 < key
        · refine .inr ⟨h, ?_⟩
          simpa [seatN, lessAt, List.getElem?_eq_getElem hi, e2, h] using fin
        · refine .inl ⟨by omega, ?_⟩
          simpa [seatN, lessAt, List.getElem?_eq_getElem hi, e2, h] using fin
    · rintro ρ S0 ⟨rfl, x, rfl⟩
      generalize hseat : seatN ps key ps.length = seat at *
      have hz0 := szI_pos (w := w) (l := 0) (by omega) h2 h3
      simp [w_law_stretch_r1, ix1]
      refine ⟨divOk (by omega) (by omega), mulR (by omega), ?_⟩
      refine loop_while (fun m ρ S' => S' = S0 ∧ ∃ l, m = h - l ∧ l ≤ h ∧ (∀ j, j < l → roomAt ps w s seat j = false) ∧ ρ = [some (bnd t w s), some (.ref n), some (.int key), some (.int seat), x, some (.int l), some (.int (szI w l)), some (.int (fstI w l seat))]) h ⟨rfl, 0, rfl, Nat.zero_le _, fun _ h => absurd h (by omega), by simp [szI, fstI]⟩ ?_
      rintro m ρ S' N ⟨rfl, l, rfl, hlh, hno, rfl⟩ hN
      have hz := szI_pos (w := w) (l := l) (by omega) h2 h3
      have hz2 := szI_pos (w := w) (l := l + 1) (by omega) h2 h3
      have hf := fstI_nonneg (p := seat) (l := l) (by omega) h2 h3 (by omega)
      have hpw := pow10 l (by omega)
      have hls : 0 ≤ (l : Int) * s := Int.mul_nonneg (by omega) (by omega)
      have hls2 : (l : Int) * s ≤ 4 * 1000 := Int.mul_le_mul (by omega) s1 s0 (by decide)
      simp [sp_law_held, hn, sp_law_two, ix1, ix2]
      refine ⟨ps, rfl, ⟨hf, by omega⟩, by omega, mulL (by omega), mulR (by omega), ?_⟩
      rw [Int.mul_comm (l : Int) s]
      by_cases hrm : (heldI ps w seat l : Int) < 2 ^ l * (w - s * l)
      · refine .inl ⟨hrm, ?_⟩
        rw [lowN_some' (i := l) hlh (by simpa [roomAt] using hrm) hno hr] at hq
        exact ret_same hq
      · have hro : roomAt ps w s seat l = false := by simpa [roomAt] using hrm
        have hlt : l < h := by
          rcases Nat.lt_or_ge l h with h5 | h5
          · exact h5
          · have : h = l := by omega
            rw [this, hro] at hr; cases hr
        refine .inr ⟨by show _ ≤ (heldI ps w seat l : Int); omega, ?_⟩
        rw [← szI_next]
        refine ⟨divOk (by omega) (by omega), mulR (by omega), ?_⟩
        refine hN (h - (l + 1)) _ _ (by omega) ⟨rfl, l + 1, rfl, hlt, fun j hj => ?_, rfl⟩
        by_cases hji : j = l
        · subst hji; exact hro
        · exact hno j (by omega)
  · exact h.elim
def lowCap (w s h : Int) : Int := if 0 < h then 2 ^ (h.toNat - 1) * (w - s * (h - 1)) else 0
def overI (w s h : Int) (m : Nat) : Int := if 0 < (m : Int) - lowCap w s h then (m : Int) - lowCap w s h else 0
def sp_over_of : SPf
  | [.tup [.int _, .int w, .int s], .int h, .ref n], S, Q, _ => ∃ ps, S[n]? = some (shp ps) ∧ (0 ≤ h ∧ h ≤ 60) ∧ Q (.int (overI w s h (things ps).length)) S
  | _, _, _, _ => False
theorem len_over_of : ∀ ds S Q E, sp_over_of ds S Q E → ds.length = 3 := by
  intro ds S Q E h; unfold sp_over_of at h; split at h <;> first | rfl | exact h.elim
abbrev n_over_of : List Str := ["bounds", "height", "shelf", "low"]
def w_over_of : WS :=
  wsSeq (wsSet 3 (ret (.int 0))) (wsSeq (wsIf (wOp pGt (wVar 1) (ret (.int 0))) (wsSet 3 (wCall sp_cap_of [wVar 0, wOp pSub (wVar 1) (ret (.int 1))] [])) (wsNil)) (wsRet (wB bMax [ret (.int 0), wOp pSub (wCall sp_held [wVar 2, ret (.int 0), wB bLen [wVar 2]] []) (wVar 3)])))
theorem ob_over_of : Ob n_over_of sp_over_of w_over_of := by
  intro ds S Q E hS hd h
  unfold sp_over_of at h
  split at h
  · rename_i t w s h1 n
    obtain ⟨ps, hn, ⟨h2, h3⟩, hq⟩ := h
    simp [w_over_of, startD, sp_held, sp_cap_of, hn]
    by_cases hh : 0 < h1
    · refine .inr ⟨hh, by omega, ps, rfl, ret_same ?_⟩
      simpa [overI, lowCap, hh] using hq
    · refine .inl ⟨by omega, ps, rfl, ret_same ?_⟩
      simpa [overI, lowCap, hh] using hq
  · exact h.elim
theorem Gc.two {S0 S' : Store} {c1 c2 : Cell} {n k1 k2 : Nat} (hn : S0.length = n) (hc : ClS S0) (h0 : ∀ i, i < n → S'[i]? = S0[i]?) (hk1 : S'[k1]? = some c1) (hk2 : S'[k2]? = some c2) (hn1 : n ≤ k1) (hn2 : n ≤ k2) (hne : k1 ≠ k2) (hd1 : ClC n c1) (hd2 : ClC n c2) :
    Gc n S' (.tup [.ref k1, .ref k2]) (S0 ++ [c1, c2]) (.tup [.ref n, .ref (n + 1)]) := by
  subst hn
  have hψ : ∀ i, i < S0.length → (List.range S0.length ++ [k1, k2])[i]? = some i := fun i h => range_get h
  have g1 : (List.range S0.length ++ [k1, k2])[S0.length]? = some k1 := by rw [List.getElem?_append_right (by simp)]; simp
  have g2 : (List.range S0.length ++ [k1, k2])[S0.length + 1]? = some k2 := by rw [List.getElem?_append_right (by simp)]; simp
  refine ⟨List.range S0.length ++ [k1, k2], ⟨[k1, k2], rfl⟩, ?_, by simp, fun i j c h1 h2 => ?_, ?_⟩
  · rw [List.nodup_append]
    exact ⟨List.nodup_range, by simpa using hne, fun a ha b hb e => by
      have h1 : a < S0.length := by simpa using ha
      have h2 : b = k1 ∨ b = k2 := by simpa using hb
      omega⟩
  · by_cases hi : i < S0.length
    · rw [hψ i hi] at h2; cases h2
      rw [List.getElem?_append_left hi] at h1
      exact ⟨c, by rw [h0 i hi]; exact h1, RenC.id hψ (hc i c h1)⟩
    · have hi2 : i = S0.length ∨ i = S0.length + 1 := by
        have := (List.getElem?_eq_some_iff.mp h1).1
        simp at this; omega
      rcases hi2 with rfl | rfl
      · rw [g1] at h2; cases h2
        rw [List.getElem?_append_right (Nat.le_refl _)] at h1
        simp at h1; subst h1
        exact ⟨_, hk1, RenC.id hψ hd1⟩
      · rw [g2] at h2; cases h2
        rw [List.getElem?_append_right (by omega)] at h1
        simp at h1; subst h1
        exact ⟨_, hk2, RenC.id hψ hd2⟩
  · simp only [Ren]
    refine ⟨_, rfl, Rens.cons ?_ (Rens.cons ?_ Rens.nil)⟩
    · simp only [Ren]; exact ⟨k1, g1, rfl⟩
    · simp only [Ren]; exact ⟨k2, g2, rfl⟩
theorem Gc.same {S0 S' : Store} {c : Cell} {n k : Nat} (hn : S0.length = n) (hc : ClS S0) (h0 : ∀ i, i < n → S'[i]? = S0[i]?) (hk : S'[k]? = some c) (hnk : n ≤ k) (hd : ClC n c) : Gc n S' (.tup [.ref k, .ref k]) (S0 ++ [c]) (.tup [.ref n, .ref n]) := by
  obtain ⟨ψ, h1, h2, h3, h4, h5⟩ := Gc.one hn hc h0 hk hnk hd
  exact ⟨ψ, h1, h2, h3, h4, by simp only [Ren]; exact ⟨_, rfl, Rens.cons h5 (Rens.cons h5 Rens.nil)⟩⟩
theorem twice_no {m r : List Th} {t : Th} (h : m.getLast? = some t) : ¬ NoEq (m ++ t :: r) := fun hno => by
  rw [List.getLast?_eq_getElem?] at h
  obtain ⟨hl, e⟩ := List.getElem?_eq_some_iff.mp h
  refine hno (m.length - 1) (by simp; omega) ?_
  rw [List.getElem?_append_left (by omega), h, List.getElem?_append_right (by omega), show m.length - 1 + 1 - m.length = 0 by omega]; rfl
theorem twice_split {ps : List Pl} {p q : Nat} {t : Th} (h : ps[p]? = some (some t)) (hpq : p < q) : ∃ r, things (ps.take q) = things (ps.take p) ++ t :: r := by
  obtain ⟨hp, e⟩ := List.getElem?_eq_some_iff.mp h
  have : ps.take q = ps.take p ++ (some t :: (ps.take q).drop (p + 1)) := by
    have h2 : p < (ps.take q).length := by simp; omega
    have := List.take_append_drop p (ps.take q)
    rw [List.drop_eq_getElem_cons h2, List.take_take, Nat.min_eq_left (by omega), List.getElem_take, e] at this
    exact this.symm
  rw [this, things_app]
  exact ⟨things ((ps.take q).drop (p + 1)), rfl⟩
theorem twice_unique {ps : List Pl} {p q : Nat} {t u : Th} (h : Twice ps p t) (h2 : Twice ps q u) : p = q := by
  rcases Nat.lt_trichotomy p q with h3 | h3 | h3
  · obtain ⟨r, e⟩ := twice_split h.1 h3
    exact absurd (e ▸ h2.2.2) (twice_no h.2.1)
  · exact h3
  · obtain ⟨r, e⟩ := twice_split h2.1 h3
    exact absurd (e ▸ h.2.2) (twice_no h2.2.1)
theorem mend_unique {ps ms : List Pl} {p : Nat} {t : Th} (h : Twice ps p t) (hm : Mend ps ms) : ms = ps.set p none := by
  rcases hm with ⟨hno, _⟩ | ⟨q, u, h2, rfl⟩
  · obtain ⟨r, e⟩ := twice_split h.1 (List.getElem?_eq_some_iff.mp h.1).1
    rw [List.take_of_length_le (Nat.le_refl _)] at e
    exact absurd (e ▸ hno) (twice_no h.2.1)
  · rw [twice_unique h h2]
theorem mend_none {ps ms : List Pl} (h : NoEq (things ps)) (hm : Mend ps ms) : ms = ps := by
  rcases hm with ⟨_, rfl⟩ | ⟨q, u, h2, rfl⟩
  · rfl
  · obtain ⟨r, e⟩ := twice_split h2.1 (List.getElem?_eq_some_iff.mp h2.1).1
    rw [List.take_of_length_le (Nat.le_refl _)] at e
    exact absurd (e ▸ h) (twice_no h2.2.1)
theorem things_gap {ps : List Pl} {a : Nat} : ∀ k, (∀ j, a ≤ j → j < a + k → ps[j]? = some none) → things (ps.take (a + k)) = things (ps.take a)
  | 0, _ => rfl
  | k + 1, h => by
    have hk := h (a + k) (by omega) (by omega)
    obtain ⟨hl, e⟩ := List.getElem?_eq_some_iff.mp hk
    rw [← Nat.add_assoc, take_next hl, things_app, e, things_none, List.append_nil]
    exact things_gap k fun j h1 h2 => h j h1 (by omega)
theorem NoEq.prefix {a b : List Th} (h : NoEq (a ++ b)) : NoEq a := fun i hi e => by
  refine h i (by simp; omega) ?_
  rw [List.getElem?_append_left (by omega), List.getElem?_append_left hi]; exact e
theorem straight_noEq {ps : List Pl} (h : Straight ps) : NoEq (things ps) := fun i hi e => by
  have := rises_at h i hi
  rw [List.getElem?_eq_getElem (by omega), List.getElem?_eq_getElem hi] at e
  rw [Option.some.inj e] at this
  omega
theorem twice_laid {qs : List Pl} {lo hi : Nat} {t : Th} (h1 : qs[lo]? = some (some t)) (h2 : qs[hi]? = some (some t)) (hlt : lo < hi) (hgap : ∀ j, lo < j → j < hi → qs[j]? = some none) (hno : NoEq (things (qs.set hi none))) : Twice qs hi t := by
  obtain ⟨hh, e⟩ := List.getElem?_eq_some_iff.mp h2
  obtain ⟨hl, e1⟩ := List.getElem?_eq_some_iff.mp h1
  have g := things_gap (ps := qs) (a := lo + 1) (hi - (lo + 1)) fun j h3 h4 => hgap j (by omega) (by omega)
  rw [show lo + 1 + (hi - (lo + 1)) = hi by omega, take_next hl, things_app, e1, things_some] at g
  refine ⟨h2, by rw [g]; simp, ?_⟩
  have : things (qs.set hi none) = things (qs.take hi) ++ things (none :: qs.drop (hi + 1)) := by
    rw [List.set_eq_take_append_cons_drop, if_pos hh, things_app]
  rw [this] at hno
  exact hno.prefix
theorem set2 {S : Store} {a b c d : Cell} {G : Store} : (S ++ a :: b :: c :: G).set (S.length + 1 + 1) d = S ++ a :: b :: d :: G := by rw [List.set_append_right _ _ (by omega), show S.length + 1 + 1 - S.length = 2 by omega]; rfl
theorem set3 {S : Store} {a b c d e : Cell} {G : Store} : (S ++ a :: b :: c :: d :: G).set (S.length + 3) e = S ++ a :: b :: c :: e :: G := by rw [List.set_append_right _ _ (by omega), show S.length + 3 - S.length = 3 by omega]; rfl
theorem at4 {S : Store} {a b c d e : Cell} {G : Store} : (S ++ a :: b :: c :: d :: e :: G)[S.length + 4]? = some e := by rw [List.getElem?_append_right (by omega), show S.length + 4 - S.length = 4 by omega]; rfl
theorem set4 {S : Store} {a b c d e f : Cell} {G : Store} : (S ++ a :: b :: c :: d :: e :: G).set (S.length + 4) f = S ++ a :: b :: c :: d :: f :: G := by rw [List.set_append_right _ _ (by omega), show S.length + 4 - S.length = 4 by omega]; rfl
theorem set_self {ps : List Pl} {i : Nat} {a : Pl} (h : ps[i]? = some a) : ps.set i a = ps := by
  obtain ⟨hl, e⟩ := List.getElem?_eq_some_iff.mp h
  rw [← e]; exact List.set_getElem_self hl
theorem things_at {ps : List Pl} {i : Nat} {a : Pl} (h : ps[i]? = some a) : things ps = things (ps.take i) ++ (a.toList ++ things (ps.drop (i + 1))) := by
  obtain ⟨hl, e⟩ := List.getElem?_eq_some_iff.mp h
  have : ps = ps.take i ++ (a :: ps.drop (i + 1)) := by rw [← e, List.getElem_cons_drop, List.take_append_drop]
  calc things ps = things (ps.take i ++ (a :: ps.drop (i + 1))) := by rw [← this]
    _ = _ := by rw [things_app]; cases a <;> rfl
def dueOf (ps : List Pl) (j o : Nat) (t : Th) : List Pl := if o = j then ps.set o (some t) else (ps.set o (some t)).set (max j o) none
theorem doubled_ok {ps : List Pl} {j o : Nat} {t : Th} (hst : Straight ps) (hj : ps[j]? = some (some t)) (ho : o < ps.length) (hg : o ≠ j → ∀ x, (o ≤ x ∧ x < j ∨ j < x ∧ x ≤ o) → ps[x]? = some none) :
    (∀ ms, Mend (ps.set o (some t)) ms → ms = dueOf ps j o t) ∧ things (dueOf ps j o t) = things ps := by
  have hno := straight_noEq hst
  obtain ⟨hjl, hje⟩ := List.getElem?_eq_some_iff.mp hj
  rcases Nat.lt_trichotomy o j with h | h | h
  · have hg' := hg (by omega)
    have e1 : dueOf ps j o t = (ps.set o (some t)).set j none := by unfold dueOf; rw [if_neg (by omega), Nat.max_eq_left (by omega)]
    have et : things ((ps.set o (some t)).set j none) = things ps := by
      have d1 : ((ps.set o (some t)).set j none)[j]? = some none := by simp [hjl]
      rw [things_at hj, things_at d1]
      have ga := things_gap (ps := ps) (a := o) (j - o) fun x h1 h2 => hg' x (by omega)
      rw [show o + (j - o) = j by omega] at ga
      have gb := things_gap (ps := (ps.set o (some t)).set j none) (a := o + 1) (j - (o + 1)) fun x h1 h2 => by
        rw [List.getElem?_set_ne (by omega), List.getElem?_set_ne (by omega)]; exact hg' x (by omega)
      rw [show o + 1 + (j - (o + 1)) = j by omega, take_next (by simp; omega), things_app] at gb
      rw [ga, gb]
      have e2 : ((ps.set o (some t)).set j none).take o = ps.take o := by
        rw [List.take_set_of_le (by omega), List.take_set_of_le (by omega)]
      have e3 : ((ps.set o (some t)).set j none).drop (j + 1) = ps.drop (j + 1) := by
        rw [List.drop_set_of_lt (by omega), List.drop_set_of_lt (by omega)]
      rw [e2, e3]
      simp [things, show j ≠ o by omega]
    refine ⟨fun ms hm => ?_, by rw [e1]; exact et⟩
    have tw : Twice (ps.set o (some t)) j t := twice_laid (lo := o) (by simp [ho]) (by rw [List.getElem?_set_ne (by omega)]; exact hj) h (fun x h1 h2 => by rw [List.getElem?_set_ne (by omega)]; exact hg' x (by omega)) (by rw [et]; exact hno)
    rw [e1]; exact mend_unique tw hm
  · subst h
    have e0 := set_self hj
    have e1 : dueOf ps o o t = ps := by unfold dueOf; rw [if_pos rfl, e0]
    rw [e1, e0]
    exact ⟨fun ms hm => mend_none hno hm, rfl⟩
  · have hg' := hg (by omega)
    have e0 : (ps.set o (some t)).set o none = ps := by
      rw [List.set_set]; exact set_self (hg' o (by omega))
    have e1 : dueOf ps j o t = (ps.set o (some t)).set o none := by unfold dueOf; rw [if_neg (by omega), Nat.max_eq_right (by omega)]
    refine ⟨fun ms hm => ?_, by rw [e1, e0]⟩
    have tw : Twice (ps.set o (some t)) o t := twice_laid (lo := j) (by rw [List.getElem?_set_ne (by omega)]; exact hj) (by simp [ho]) h (fun x h1 h2 => by rw [List.getElem?_set_ne (by omega)]; exact hg' x (by omega)) (by rw [e0]; exact hno)
    rw [e1]; exact mend_unique tw hm
def sp_rows_of : SPf
  | [.ref n], S, Q, _ => ∃ ps, S[n]? = some (shp ps) ∧ ps.length ≤ 100000 ∧ ∀ qs, Mend ps qs → Q (.ref S.length) (S ++ [thp (things qs)])
  | _, _, _, _ => False
theorem len_rows_of : ∀ ds S Q E, sp_rows_of ds S Q E → ds.length = 1 := by
  intro ds S Q E h; unfold sp_rows_of at h; split at h <;> first | rfl | exact h.elim
abbrev n_rows_of : List Str := ["shelf", "thing"]
def w_rows_of : WS :=
  wsRet (wComp [1] (tN 1) (wCall sp_mended [wVar 0] []) (wOp pNe (wVar 1) (wTup [])) (wVar 1))
theorem ob_rows_of : Ob n_rows_of sp_rows_of w_rows_of := by
  intro ds S Q E hS hd h
  unfold sp_rows_of at h
  split at h
  · rename_i n
    obtain ⟨ps, hn, hl, hq⟩ := h
    simp [w_rows_of, startD, sp_mended, hn]
    refine ⟨ps, rfl, hl, fun qs hm => ⟨qs.map ePl.enc, by simp [atL], comp_full (by simp) (by simp) ?_⟩⟩
    exact ret_list hS (fun i hi => by rw [List.getElem?_append_left (by simp; omega), List.getElem?_append_left hi]) (by simp) (by simp) (cls_map eTh _ _) (hq qs hm)
  · exact h.elim
def sp_law_cap : SPf
  | [.tup [.int _, .int w, .int s], .int h], S, Q, _ => (0 ≤ h ∧ h ≤ 4 ∧ 0 ≤ s ∧ s ≤ 20 ∧ 1 ≤ w ∧ w ≤ 20) ∧ Q (.int (2 ^ h.toNat * (w - h * s))) S
  | _, _, _, _ => False
theorem len_law_cap : ∀ ds S Q E, sp_law_cap ds S Q E → ds.length = 2 := by
  intro ds S Q E h; unfold sp_law_cap at h; split at h <;> first | rfl | exact h.elim
abbrev n_law_cap : List Str := ["bounds", "height"]
def w_law_cap : WS :=
  wsRet (wOp pMul (wCall sp_law_two [wVar 1] []) (wOp pSub (wOp pIx (wVar 0) (ret (.int 1))) (wOp pMul (wVar 1) (wOp pIx (wVar 0) (ret (.int 2))))))
theorem ob_law_cap : Ob n_law_cap sp_law_cap w_law_cap := by
  intro ds S Q E hS hd h
  unfold sp_law_cap at h
  split at h
  · rename_i t w s h1
    obtain ⟨⟨h2, h3, h4, h5, h6, h7⟩, hq⟩ := h
    have hsh : 0 ≤ h1 * s := Int.mul_nonneg h2 h4
    have hsh2 : h1 * s ≤ 4 * 20 := Int.mul_le_mul h3 h5 h4 (by decide)
    simp [w_law_cap, startD, sp_law_two, ix1, ix2]
    exact ⟨by omega, mulR (by omega), mulR (by omega), ret_same hq⟩
  · exact h.elim
/-! ### x in, not in a list of numbers -/
def pInList : D → D → W
  | .int k, .ref n => fun _ S Q _ => ∃ ns : List Int, S[n]? = some (.lst (ns.map .int)) ∧ Q (.bl (decide (k ∈ ns))) S
  | _, _ => fail
def pNotInList : D → D → W
  | .int k, .ref n => fun _ S Q _ => ∃ ns : List Int, S[n]? = some (.lst (ns.map .int)) ∧ Q (.bl (!decide (k ∈ ns))) S
  | _, _ => fail
section
variable {K : PySem.W.Frag} {mg : Str → Option Value} {WW : WX}
theorem inV_ints (k : Int) : ∀ ns : List Int, inV (.int k) (ns.map V.int) = decide (k ∈ ns)
  | [] => rfl
  | n :: ns => by
    have := inV_ints k ns
    unfold inV at this ⊢
    rw [List.map_cons, List.any_cons, this]
    show (n == k || decide (k ∈ ns)) = _
    by_cases h : n = k
    · subst h; simp
    · have h2 : ¬ k = n := fun e => h e.symm
      simp [h, h2]
theorem flat_ints : ∀ ns : List Int, (ns.map V.int).all flatV = true
  | [] => rfl
  | n :: ns => by rw [List.map_cons, List.all_cons, flat_ints ns]; rfl
theorem pr_inList : Pr2 K mg WW pInList (rIn K false) := by
  intro φ ρ S σ H Q d1 d2 x y r1 r2 h
  unfold pInList at h
  split at h
  · obtain ⟨rs, re, Q', E', ⟨ns, h1, hq⟩, hn, hx⟩ := h
    obtain ⟨a1, v1, rfl, _, e1, q1, _⟩ := rs.lst h1 r2
    rw [rds_intsM q1] at e1
    rw [r1.int_inv]
    refine ⟨a1, _, rfl, .inl (SqL.of e1), rfl, flat_ints ns, ?_⟩
    rw [inV_ints]
    exact hn _ _ hq _ _ _ Ext.refl rs RD.bl
  · exact h.no.elim
theorem pr_notinList : Pr2 K mg WW pNotInList (rIn K true) := by
  intro φ ρ S σ H Q d1 d2 x y r1 r2 h
  unfold pNotInList at h
  split at h
  · obtain ⟨rs, re, Q', E', ⟨ns, h1, hq⟩, hn, hx⟩ := h
    obtain ⟨a1, v1, rfl, _, e1, q1, _⟩ := rs.lst h1 r2
    rw [rds_intsM q1] at e1
    rw [r1.int_inv]
    refine ⟨a1, _, rfl, .inl (SqL.of e1), rfl, flat_ints ns, ?_⟩
    rw [inV_ints]
    exact hn _ _ hq _ _ _ Ext.refl rs RD.bl
  · exact h.no.elim
end
section
variable {X : Cx} {WW : WX} {a b : Expr} {pos : Pos} {wa wb : W}
theorem se_inList (hu : X.A.units + 65 < cLine) (ha : PE X a (tm X.K X.mg WW wa)) (hb : PE X b (tm X.K X.mg WW wb)) (hm : behindInMarks .In b = false := by first | exact nomark _ | rfl) : PE X (.Compare a [.In] [b] pos) (tm X.K X.mg WW (wOp pInList wa wb)) := se_cmp op_in_seq pr_inList ha hb hm
theorem se_notinList (hu : X.A.units + 65 < cLine) (ha : PE X a (tm X.K X.mg WW wa)) (hb : PE X b (tm X.K X.mg WW wb)) (hm : behindInMarks .NotIn b = false := by first | exact nomark _ | rfl) : PE X (.Compare a [.NotIn] [b] pos) (tm X.K X.mg WW (wOp pNotInList wa wb)) := se_cmp op_notIn_seq pr_notinList ha hb hm
theorem st_inList (hu : X.A.units + 65 < cLine) (ha : PE X a (tm X.K X.mg WW wa)) (hb : PE X b (tm X.K X.mg WW wb)) (hm : behindInMarks .In b = false := by first | exact nomark _ | rfl) : PT X (.Compare a [.In] [b] pos) (ttm X.K X.mg WW (wOp pInList wa wb)) := st_cmp op_in_seq pr_inList ha hb hm
theorem st_notinList (hu : X.A.units + 65 < cLine) (ha : PE X a (tm X.K X.mg WW wa)) (hb : PE X b (tm X.K X.mg WW wb)) (hm : behindInMarks .NotIn b = false := by first | exact nomark _ | rfl) : PT X (.Compare a [.NotIn] [b] pos) (ttm X.K X.mg WW (wOp pNotInList wa wb)) := st_cmp op_notIn_seq pr_notinList ha hb hm
end
@[simp] theorem e_inList {k : Int} {n : Nat} {ρ : DEnv} {S : Store} {Q : PQ} {E : PX} : pInList (.int k) (.ref n) ρ S Q E = ∃ ns : List Int, S[n]? = some (.lst (ns.map .int)) ∧ Q (.bl (decide (k ∈ ns))) S := rfl
@[simp] theorem e_notinList {k : Int} {n : Nat} {ρ : DEnv} {S : Store} {Q : PQ} {E : PX} : pNotInList (.int k) (.ref n) ρ S Q E = ∃ ns : List Int, S[n]? = some (.lst (ns.map .int)) ∧ Q (.bl (!decide (k ∈ ns))) S := rfl
/-- pass -/
theorem ss_pass {X : Cx} {WW : WX} {pos : Pos} : PS X (.Pass pos) (tsm X.K X.mg WW wsNil) := PS.conv ps_pass fun D σ H ⟨φ, ρ, S, rs, re, D', E', hw, hn, hr, hx⟩ => hn ρ S hw σ φ H Ext.refl rs re
/-! ### sorted(d.items()), numbers by numbers -/
abbrev entI (e : Th) : Key × V := (Sum.inl e.1, V.int e.2)
def rSortItI : List V → Hp → VK → Prop := fun vs H Q => ∃ (p a : Addr) (ks : List Th), vs = [.ref p] ∧ H p = some (L2.DX.itemsO p a) ∧ H a = some (.dK (ks.map entI)) ∧
  ∀ (H' : Hp) (l : Addr) (us : List (Addr × Th)), (∀ b o, H b = some o → H' b = some o) → H l = none → (us.map (·.2)).Perm ks → (us.map (·.2)).Pairwise (fun a b => SrtO.lexB b a = false) → H' l = some (.lst (us.map fun z => V.ref z.1)) →
    (∀ z ∈ us, H' z.1 = some (.tup [.int z.2.1, .int z.2.2])) → Q (.ref l) H'
theorem pairs_get {P : Program} {w : World} {es : List DictEntry} {vs : List (Key × Value)} (h : Pairs (mixKind P w) es vs) : ∀ {j : Nat} {e : DictEntry}, es[j]? = some e → ∃ v, vs[j]? = some v ∧ (mixKind P w).is v.1 e.key = true ∧ e.val = v.2 := by
  induction h with
  | nil => intro j e h; simp at h
  | cons h1 h2 _ ih =>
    intro j e h
    cases j with
    | zero => simp at h; subst h; exact ⟨_, rfl, h1, h2⟩
    | succ j => simpa using ih (by simpa using h)
def addrV : Value → Addr
  | .ref b => b
  | _ => default
section
variable {X : Cx}
theorem mt_itemsK : MtR X "dict.items" (fun x xs H Q => ∃ (a : Addr) (kvs : List (Key × V)), x = .ref a ∧ xs = [] ∧ H a = some (.dK kvs) ∧ ∀ p, H p = none → Q (.ref p) (upd H p (L2.DX.itemsO p a))) := by
  intro pins s σ H x xs v us Q I rx rxs h
  obtain ⟨a, kvs, rfl, rfl, ha, q⟩ := h
  cases rx
  cases rxs
  obtain ⟨hz, hd, vs, kv, o, es, ep, ho, hx, hdat, _⟩ := (show ObjOk X.prog X.w H s.heap a (.dK kvs) from I.hok a _ ha)
  refine DT.callItems (es := es) (ep := ep) hd ⟨o, ho, hx, hdat⟩ ?_
  have hf : H s.heap.objs.size = none := I.hok.fresh (Nat.le_refl _)
  exact ⟨.ref s.heap.objs.size, upd H s.heap.objs.size (L2.DX.itemsO s.heap.objs.size a), I.laid (t' := s.toks) (fun b u e => Heap.get?_push_of_some _ e) (Nat.le_refl _) (L2.DX.itemsO_ok (Heap.get?_push_size _ rfl)), rfl, q _ hf⟩
theorem cr_sortItI (hc : X.calm = true) : CallR X (.builtin "sorted") rSortItI := by
  intro pins s σ H xs us Q I r h
  obtain ⟨p, a, ks, rfl, hp, ha, q⟩ := h
  obtain rfl := Vals.ref1 r
  have view : s.heap.IsItemsView p a := (show ObjOk X.prog X.w H s.heap p (L2.DX.itemsO p a) from I.hok p _ hp).1
  obtain ⟨hz, hd, xs', kv, o, es, ep, ho, hx, hdat, hko, hprs, hnd⟩ := (show ObjOk X.prog X.w H s.heap a (.dK (ks.map entI)) from I.hok a _ ha)
  have l1 : (ks.map entI).length = xs'.length := Paired.length kv
  rw [List.length_map] at l1 hz
  have l2 : es.size = xs'.length := by rw [← hprs.length, Array.length_toList]
  have hh : X.A.handled = none := I.ok.hd hc
  refine DT.sortedI (es := es) (ep := ep) hh view ⟨o, ho, hx, hdat⟩ (by rw [l2, ← l1]; exact hz) fun h' tk as hk hlt hl hG => ?_
  have lak : as.length = ks.length := by omega
  have nd : as.Nodup := List.Pairwise.imp (fun h => Nat.ne_of_lt h) hG.rise
  -- the pairs that were made
  have pr : ∀ (j : Nat) (b : Addr), as[j]? = some b → ∃ (e : Th) (t u : Tok), ks[j]? = some e ∧ h'.get? b = some { cls := .type "tuple", data := .seq #[Value.int e.1 t, Value.int e.2 u] } := by
    intro j b hj
    obtain ⟨en, he, hg⟩ := hG.pairs j b hj
    have he' : es.toList[j]? = some en := by rw [Array.getElem?_toList]; exact he
    obtain ⟨v, hv, k1, k2⟩ := pairs_get hprs he'
    obtain ⟨e0, he0, r2, r3⟩ := L2.DX.pget kv hv
    rw [List.getElem?_map] at he0
    cases hkj : ks[j]? with
    | none => rw [hkj] at he0; cases he0
    | some e =>
      rw [hkj] at he0
      have ee : entI e = e0 := Option.some.inj he0
      rw [← ee] at r2 r3
      obtain ⟨u, hu⟩ := (show ∃ u, v.2 = Value.int e.2 u from r3)
      have k1' : keyIs v.1 en.key = true := k1
      rw [← (show Sum.inl e.1 = v.1 from r2)] at k1'
      obtain ⟨t, ht⟩ := (show ∃ t, en.key = Value.int e.1 t from relV_key k1')
      refine ⟨e, t, u, rfl, ?_⟩
      rw [hg, k2, hu, ht]
  have hob : (h'.push { cls := .type "list", data := .seq (as.map Value.ref).toArray }).get? h'.objs.size = some (seqObj "list" (as.map Value.ref).toArray 0) := Heap.get?_push_size _ rfl
  have kb : ∀ b o, s.heap.get? b = some o → (h'.push { cls := .type "list", data := .seq (as.map Value.ref).toArray }).get? b = some o := fun b o e => Heap.get?_push_of_some _ (hk b o e)
  have ne0 : ∀ b o, h'.get? b = some o → b ≠ h'.objs.size := fun b o e => Nat.ne_of_lt (Heap.lt_size e)
  generalize hh2 : h'.push { cls := .type "list", data := .seq (as.map Value.ref).toArray } = h2 at hob kb ⊢
  have ka : ∀ b o, h'.get? b = some o → h2.get? b = some o := fun b o e => by rw [← hh2]; exact Heap.get?_push_of_some _ e
  let kk : Value → Int × Int := fun v => (((as.zip ks).find? fun z => decide (z.1 = addrV v)).map (·.2)).getD (0, 0)
  have kka : ∀ (j : Nat) (b : Addr) (e : Th), as[j]? = some b → ks[j]? = some e → kk (.ref b) = e := by
    intro j b e hj he
    have hm : (b, e) ∈ as.zip ks := List.mem_of_getElem? (List.getElem?_zip_eq_some.mpr ⟨hj, he⟩ : (as.zip ks)[j]? = some (b, e))
    show (((as.zip ks).find? fun z => decide (z.1 = b)).map (·.2)).getD (0, 0) = e
    cases hf : (as.zip ks).find? fun z => decide (z.1 = b) with
    | none =>
      rw [List.find?_eq_none] at hf
      exact absurd (hf _ hm) (by simp)
    | some z =>
      have h1 := List.find?_some hf
      have h2 := List.mem_of_find?_eq_some hf
      obtain ⟨i, hi⟩ := List.mem_iff_getElem?.mp h2
      obtain ⟨i1, i2⟩ := List.getElem?_zip_eq_some.mp hi
      have h1' : z.1 = b := by simpa using h1
      rw [h1'] at i1
      have eij : i = j := (List.getElem?_inj (List.getElem?_eq_some_iff.mp i1).1 nd).mp (i1.trans hj.symm)
      subst eij
      rw [he] at i2
      show z.2 = e
      exact (Option.some.inj i2).symm
  have pairIn : ∀ v ∈ as.map Value.ref, _root_.Srt.IsPair h2 v (kk v).1 (kk v).2 := by
    intro v hv
    obtain ⟨b, hb, rfl⟩ := List.mem_map.mp hv
    obtain ⟨j, hj⟩ := List.mem_iff_getElem?.mp hb
    obtain ⟨e, t, u, he, hg⟩ := pr j b hj
    rw [kka j b e hj he]
    exact ⟨b, _, t, u, 0, rfl, ka _ _ hg, rfl, rfl⟩
  have kkmap : (as.map Value.ref).map kk = ks := by
    apply List.ext_getElem?
    intro j
    rw [List.map_map, List.getElem?_map]
    cases hj : as[j]? with
    | none =>
      have : as.length ≤ j := by simpa using hj
      rw [List.getElem?_eq_none (by omega)]; rfl
    | some b =>
      obtain ⟨e, _, _, he, _⟩ := pr j b hj
      rw [he]
      exact congrArg some (kka j b e hj he)
  refine wpAny_call_entry PyProof.Rows.slot_list_sort ⟨_, hob, rfl⟩ PyProof.Rows.entry_list_sort
    (SrtO.list_sort_ord (s := { s with heap := h2, toks := tk }) (vs := as.map Value.ref) (SrtO.swo_lex kk) hob (by rw [List.length_map]; omega) (fun h2' => SrtO.pairs_sortableO (s := { s with heap := h2, toks := tk }) (by omega) pairIn fun o e c => ?_) fun out o1 o2 => ⟨.none, rfl, ?_⟩) (PyProof.Rows.args_list_sort _)
  · have e' : some o = some (seqObj "list" (as.map Value.ref).toArray 0) := e.symm.trans hob
    cases e'
    exact absurd (Value.type.inj c) (by decide)
  · show EP X pins σ Q (.ref h'.objs.size) { s with heap := sortedHeap h2 h'.objs.size (as.map Value.ref) out.toArray, toks := tk }
    have hmem : ∀ v ∈ out, ∃ b ∈ as, v = .ref b := fun v hv => by
      obtain ⟨b, hb, e⟩ := List.mem_map.mp (o2.perm.mem_iff.mp hv)
      exact ⟨b, hb, e.symm⟩
    let us : List (Addr × Th) := out.map fun v => (addrV v, kk v)
    have hus2 : us.map (·.2) = out.map kk := by simp [us, Function.comp_def]
    have hus1 : us.map (fun z => Value.ref z.1) = out := by
      show (out.map fun v => (addrV v, kk v)).map _ = out
      rw [List.map_map]
      conv => rhs; rw [← List.map_id out]
      refine List.map_congr_left fun v hv => ?_
      obtain ⟨b, _, rfl⟩ := hmem v hv
      rfl
    have hperm : (us.map (·.2)).Perm ks := by
      rw [hus2, ← kkmap]
      exact o2.perm.map kk
    have hsort : (us.map (·.2)).Pairwise (fun a b => SrtO.lexB b a = false) := by
      rw [hus2]
      exact List.pairwise_map.mpr o1
    have kF : ∀ b o, b ≠ h'.objs.size → h2.get? b = some o → (sortedHeap h2 h'.objs.size (as.map Value.ref) out.toArray).get? b = some o := fun b o hb e => (PyProof.Rows.sortedHeap_old hb (Heap.lt_size e)).trans e
    have kS : ∀ b o, s.heap.get? b = some o → (sortedHeap h2 h'.objs.size (as.map Value.ref) out.toArray).get? b = some o := fun b o e => kF b o (ne0 _ _ (hk b o e)) (kb b o e)
    obtain ⟨eF, heF⟩ := PyProof.Rows.sortedHeap_at (vs := as.map Value.ref) (out := out.toArray) hob
    have I1 : Inv X pins σ H { s with heap := sortedHeap h2 h'.objs.size (as.map Value.ref) out.toArray, toks := tk } := I.kept (t' := tk) kS
    have hn0 : H h'.objs.size = none := I.hok.fresh (Nat.le_of_lt hlt)
    have hlen : (us.map fun z => V.ref z.1).length ≤ sizeLine := by
      have e := hperm.length_eq
      rw [List.length_map] at e ⊢
      omega
    have rv : Vals (us.map fun z => V.ref z.1) out := by
      rw [← hus1]
      exact vals_maps (fun z : Addr × Th => V.ref z.1) (fun z => Value.ref z.1) us fun _ _ => rfl
    have I2 : Inv X pins σ (upd H h'.objs.size (.lst (us.map fun z => V.ref z.1))) { s with heap := sortedHeap h2 h'.objs.size (as.map Value.ref) out.toArray, toks := tk } :=
      I1.take (h' := sortedHeap h2 h'.objs.size (as.map Value.ref) out.toArray) (t' := tk) (fun b ob _ e => e) (I.fpOk (Nat.le_of_lt hlt) hn0) ⟨hlen, out, eF, rv, heF⟩
    obtain ⟨H2, I3, g, qt⟩ := L2.DX.takeT (P := fun b vs => ∃ (j : Nat) (e : Th), as[j]? = some b ∧ ks[j]? = some e ∧ vs = [.int e.1, .int e.2]) I as _ I2 nd fun b hb => by
      obtain ⟨j, hj⟩ := List.mem_iff_getElem?.mp hb
      obtain ⟨e, t, u, he, hg⟩ := pr j b hj
      have hbl : s.heap.objs.size ≤ b := Nat.le_of_lt (hG.above b hb)
      refine ⟨hbl, ?_, [.int e.1, .int e.2], ⟨j, e, hj, he, rfl⟩, fun H3 => ⟨(by rw [sizeLine_eq]; show 2 ≤ 16777216; omega), [Value.int e.1 t, Value.int e.2 u], .cons ⟨t, rfl⟩ (.cons ⟨u, rfl⟩ .nil), ⟨_, kF _ _ (ne0 _ _ hg) (ka _ _ hg), rfl, 0, rfl⟩⟩⟩
      rw [upd_ne (ne0 _ _ hg)]
      exact I.hok.fresh hbl
    have gr : ∀ b o, H b = some o → H2 b = some o := fun b o e => g b o (by rw [upd_ne (ne_of_none e hn0)]; exact e)
    refine ⟨.ref h'.objs.size, H2, I3, rfl, q H2 h'.objs.size us gr hn0 hperm hsort (g _ _ upd_same) fun z' hz' => ?_⟩
    obtain ⟨v, hv, rfl⟩ := List.mem_map.mp hz'
    obtain ⟨b, hb, rfl⟩ := hmem v hv
    obtain ⟨vs, ⟨j, e, j1, j2, ev⟩, hH⟩ := qt b hb
    show H2 b = some (.tup [.int (kk (.ref b)).1, .int (kk (.ref b)).2])
    rw [kka j b e j1 j2, hH, ev]
end
def wSItems (wo : W) : W := fun ρ S Q E => wo ρ S (fun d S1 => ∃ n, ∃ ks : List Th, d = .ref n ∧ S1[n]? = some (.dct (ks.map fun e => ((Sum.inl e.1 : Key), D.int e.2))) ∧ ∀ us : List Th, us.Perm ks → us.Pairwise (fun a b => SrtO.lexB b a = false) → Q (.ref S1.length) (S1 ++ [thp us])) E
@[simp] theorem e_sItems {wo : W} {ρ : DEnv} {S : Store} {Q : PQ} {E : PX} : wSItems wo ρ S Q E = wo ρ S (fun d S1 => ∃ n, ∃ ks : List Th, d = .ref n ∧ S1[n]? = some (.dct (ks.map fun e => ((Sum.inl e.1 : Key), D.int e.2))) ∧ ∀ us : List Th, us.Perm ks → us.Pairwise (fun a b => SrtO.lexB b a = false) → Q (.ref S1.length) (S1 ++ [thp us])) E := rfl
section
variable {K : PySem.W.Frag} {mg : Str → Option Value} {φ : List Addr} {S : Store} {H H' : Hp}
theorem rks_int : ∀ {ks : List Th} {vs : List (Key × V)}, RKs K φ H (ks.map fun e => ((Sum.inl e.1 : Key), D.int e.2)) vs → vs = ks.map entI
  | [], vs, h => h.nil_inv
  | e :: ks, vs, h => by
    obtain ⟨v, t, rfl, h1, h2⟩ := RKs.inv (show RKs K φ H (((Sum.inl e.1 : Key), D.int e.2) :: ks.map fun e => ((Sum.inl e.1 : Key), D.int e.2)) vs from h)
    rw [rks_int h2, h1.int_inv]; rfl
theorem Ext.keeps (k : ∀ b o, H b = some o → H' b = some o) : Ext φ H φ H' := ⟨⟨[], by simp⟩, fun b o e _ => k b o e, fun b o e _ => k b o e, fun b h => .inl h⟩
theorem RS.keeps (rs : RS K mg φ S H) (k : ∀ b o, H b = some o → H' b = some o) : RS K mg φ S H' := by
  refine ⟨rs.len, rs.nd, fun n c a e1 e2 => ?_⟩
  have hc := rs.cell n c a e1 e2
  obtain ⟨o, ho⟩ : ∃ o, H a = some o := by
    have := hc.mut
    cases h : H a with
    | none => rw [h] at this; exact this.elim
    | some o => exact ⟨o, rfl⟩
  exact hc.mono (Ext.keeps k) (by rw [k a o ho, ho])
theorem rds_new : ∀ {us : List (Addr × Th)}, (∀ z ∈ us, H z.1 = some (.tup [.int z.2.1, .int z.2.2])) → RDs K φ H ((us.map (·.2)).map eTh.enc) (us.map fun z => V.ref z.1)
  | [], _ => RDs.nil
  | z :: us, h => by
    refine RDs.cons ?_ (rds_new fun y hy => h y (List.mem_cons_of_mem _ hy))
    show RD K φ H (.tup [.int z.2.1, .int z.2.2]) _
    simp only [RD]
    exact ⟨z.1, _, rfl, h z (List.mem_cons_self ..), RDs.cons RD.int (RDs.cons RD.int RDs.nil)⟩
end
section
variable {X : Cx} {WW : WX} {o : Expr} {p pos apos cpos : Pos} {wo : W}
theorem se_sItems (hc : X.calm = true) (hg : Gl X "sorted") (hm : X.mg "sorted" = none) (ho : PE X o (tm X.K X.mg WW wo)) (hbase : attributeBase o "items" X.env (eval o X.env) = eval o X.env := by rfl) (hline : (apos.endLine == cpos.line) = true := by rfl)
    (he : starEach [.Call (.Attribute o "items" apos) [] [] cpos] X.env = (false, eval (.Call (.Attribute o "items" apos) [] [] cpos) X.env) :: starEach [] X.env := by rfl) (hpl : (backTo pos (starEach [] X.env)).any (·.1) = false := by rfl) :
    PE X (.Call (.Name "sorted" p) [.Call (.Attribute o "items" apos) [] [] cpos] [] pos) (tm X.K X.mg WW (wSItems wo)) := by
  refine PE.conv (pe_callB (cr_sortItI hc) hg hm (by decide +kernel) (pa_cons (pe_bm0 PySem.F.plainAttrs_dict PySem.F.slot_dict_items PySem.F.type_dict_items mt_itemsK ho hbase hline) pa_nil he) (by decide) (by decide) he hpl) ?_
  rintro σ H Q ⟨φ, ρ, S, rs, re, Q', E', hw, hn, hx⟩
  refine ⟨φ, ρ, S, rs, re, _, E', hw, fun d S1 ⟨n, ks, e1, hd, h1⟩ v φ1 H1 x1 rs1 rd1 => ?_, hx⟩
  subst e1
  have ht := isT_ok (T := "dict") rs1 rd1 (.inr ⟨rfl, _, hd⟩)
  obtain ⟨a, vs, rfl, ha, hH, rk, hz⟩ := rs1.dct hd rd1
  have hvs := rks_int rk
  subst hvs
  refine ⟨ht, a, _, rfl, rfl, hH, fun p hp => ?_⟩
  refine ⟨p, a, ks, rfl, upd_same, by rw [upd_ne (ne_of_none hH hp)]; exact hH, fun H2 l us g hl hperm hsort hlst htup => ?_⟩
  have kp : ∀ b o, H1 b = some o → H2 b = some o := fun b o e => g b o (by rw [upd_ne (ne_of_none e hp)]; exact e)
  have hln : H1 l = none := by
    cases q : H1 l with
    | none => rfl
    | some o =>
      have : upd H1 p (L2.DX.itemsO p a) l = some o := by rw [upd_ne (ne_of_none q hp)]; exact q
      rw [this] at hl; cases hl
  have rs2 : RS X.K X.mg φ1 S1 H2 := rs1.keeps kp
  have nd : l ∉ φ1 := rs1.out hln
  have rdu : RDs X.K φ1 H2 ((us.map (·.2)).map eTh.enc) (us.map fun z => V.ref z.1) := rds_new htup
  have hlen : ((us.map (·.2)).map eTh.enc).length ≤ sizeLine := by
    have := hperm.length_eq
    simp at this hz ⊢; omega
  exact hn _ _ (h1 _ hperm hsort) _ _ _ (x1.trans ((Ext.keeps kp).adopt hln)) (rs2.adopt nd ⟨_, hlst, rdu, hlen⟩) (alloc_ref rs1 l)
end
/-! ### deeds on a shelf, and a model of them -/
def setTh (ts : List Th) (key am : Int) : List Th := ts.map fun t => if t.1 = key then (key, am) else t
def delTh (ts : List Th) (key : Int) : List Th := ts.filter fun t => decide (t.1 ≠ key)
theorem set_self' {ps : List Pl} {i : Nat} {a : Pl} (h : ps[i]? = some a) : ps.set i a = ps := by
  obtain ⟨hl, e⟩ := List.getElem?_eq_some_iff.mp h
  rw [← e]; exact List.set_getElem_self hl
theorem things_at' {ps : List Pl} {i : Nat} {a : Pl} (h : ps[i]? = some a) : things ps = things (ps.take i) ++ (a.toList ++ things (ps.drop (i + 1))) := by
  obtain ⟨hl, e⟩ := List.getElem?_eq_some_iff.mp h
  have : ps = ps.take i ++ (a :: ps.drop (i + 1)) := by rw [← e, List.getElem_cons_drop, List.take_append_drop]
  calc things ps = things (ps.take i ++ (a :: ps.drop (i + 1))) := by rw [← this]
    _ = _ := by rw [things_app]; cases a <;> rfl
theorem things_set {ps : List Pl} {i : Nat} {a : Pl} (h : i < ps.length) : things (ps.set i a) = things (ps.take i) ++ (a.toList ++ things (ps.drop (i + 1))) := by
  have h1 : (ps.set i a)[i]? = some a := by simp [h]
  rw [things_at' h1, List.take_set_of_le (Nat.le_refl _), List.drop_set_of_lt (by omega)]
theorem rises_mid {l r : List Th} {t : Th} (h : Rises (l ++ t :: r)) : (∀ u ∈ l, u.1 < t.1) ∧ (∀ u ∈ r, t.1 < u.1) ∧ Rises (l ++ r) := by
  unfold Rises at *
  rw [List.pairwise_append, List.pairwise_cons] at h
  refine ⟨fun u hu => h.2.2 u hu t (List.mem_cons_self ..), h.2.1.1, ?_⟩
  rw [List.pairwise_append]
  exact ⟨h.1, h.2.1.2, fun a ha b hb => h.2.2 a ha b (List.mem_cons_of_mem _ hb)⟩
theorem set_known {ps : List Pl} {p : Nat} {t : Th} (hr : Rises (things ps)) (h : ps[p]? = some (some t)) (am : Int) : things (ps.set p (some (t.1, am))) = setTh (things ps) t.1 am := by
  have hp := (List.getElem?_eq_some_iff.mp h).1
  rw [things_set hp, things_at' h]
  rw [things_at' h] at hr
  obtain ⟨h1, h2, _⟩ := rises_mid (l := things (ps.take p)) (t := t) (r := things (ps.drop (p + 1))) (by simpa using hr)
  unfold setTh
  simp only [Option.toList, List.map_append, List.map_cons, List.map_nil, if_true]
  have e1 : (things (ps.take p)).map (fun u => if u.1 = t.1 then (t.1, am) else u) = things (ps.take p) := by
    conv => rhs; rw [← List.map_id (things (ps.take p))]
    exact List.map_congr_left fun u hu => by have := h1 u hu; rw [if_neg (by omega)]; rfl
  have e2 : (things (ps.drop (p + 1))).map (fun u => if u.1 = t.1 then (t.1, am) else u) = things (ps.drop (p + 1)) := by
    conv => rhs; rw [← List.map_id (things (ps.drop (p + 1)))]
    exact List.map_congr_left fun u hu => by have := h2 u hu; rw [if_neg (by omega)]; rfl
  rw [e1, e2]
theorem del_known {ps : List Pl} {p : Nat} {t : Th} (hr : Rises (things ps)) (h : ps[p]? = some (some t)) : things (ps.set p none) = delTh (things ps) t.1 := by
  have hp := (List.getElem?_eq_some_iff.mp h).1
  rw [things_set hp, things_at' h]
  rw [things_at' h] at hr
  obtain ⟨h1, h2, _⟩ := rises_mid (l := things (ps.take p)) (t := t) (r := things (ps.drop (p + 1))) (by simpa using hr)
  unfold delTh
  simp only [Option.toList, List.filter_append, List.filter_cons, List.filter_nil]
  have e1 : (things (ps.take p)).filter (fun u => decide (u.1 ≠ t.1)) = things (ps.take p) := List.filter_eq_self.mpr fun u hu => by have := h1 u hu; simp; omega
  have e2 : (things (ps.drop (p + 1))).filter (fun u => decide (u.1 ≠ t.1)) = things (ps.drop (p + 1)) := List.filter_eq_self.mpr fun u hu => by have := h2 u hu; simp; omega
  rw [e1, e2]
  simp
theorem setTh_keys (ts : List Th) (key am : Int) : (setTh ts key am).map (·.1) = ts.map (·.1) := by
  unfold setTh
  rw [List.map_map]
  refine List.map_congr_left fun t _ => ?_
  simp only [Function.comp]
  split <;> simp_all
theorem rises_keys {ts : List Th} : Rises ts ↔ (ts.map (·.1)).Pairwise (· < ·) := by unfold Rises; rw [List.pairwise_map]
theorem setTh_rises {ts : List Th} (h : Rises ts) (key am : Int) : Rises (setTh ts key am) := by rw [rises_keys, setTh_keys]; exact rises_keys.mp h
theorem delTh_rises {ts : List Th} (h : Rises ts) (key : Int) : Rises (delTh ts key) := h.filter _
/-- a deed that is let, and what becomes of the model -/
inductive Deed (ps : List Pl) (w s : Int) (h : Nat) (ks : List Th) : List Wr → List Th → Prop where
  | none : Deed ps w s h ks [] ks
  | worth (key am : Int) (p : Nat) : placeN ps key = some p → Deed ps w s h ks [((p : Int), some (key, am))] (setTh ks key am)
  | take (key : Int) (p : Nat) : placeN ps key = some p → Deed ps w s h ks [((p : Int), none)] (delTh ks key)
  | put (key am : Int) : placeN ps key = none → ((things ps).length : Int) < capI w s h → Deed ps w s h ks (evW ps (fN ps w (lowK ps w s h key) key) (zN w (lowK ps w s h key)) key am) (ks ++ [(key, am)])
def FreeOk (one : Bool) (s : List Pl) (w : Wr) : Prop := (0 ≤ w.1 ∧ w.1 < s.length) ∧ (w.2 = none → one = true ∨ ∃ u, s[w.1.toNat]? = some (some u) ∧ (things s).count u = 2) ∧ (∀ t, w.2 = some t → s[w.1.toNat]? = some none ∨ ∃ u, s[w.1.toNat]? = some (some u) ∧ u.1 = t.1)
def DoneOk (ts : List Th) (one : Bool) : List Wr → List Pl → Prop
  | [], _ => True
  | w :: ws, s => FreeOk one s w ∧ (ws ≠ [] → RowsOk ts (s.set w.1.toNat w.2)) ∧ DoneOk ts one ws (s.set w.1.toNat w.2)
theorem DoneOk.safe {ts : List Th} (hr : Rises ts) (one : Bool) {v : List Wr} : ∀ {ws : List Wr} {s : List Pl}, Safe2 ts ws s (fun s => DoneOk ts one v s) → DoneOk ts one (ws ++ v) s
  | [], s, h => h
  | w :: ws, s, h => by
    obtain ⟨h1, h2, h3, h4, h5⟩ := h
    refine ⟨⟨h3, fun e => .inr ?_, fun t e => .inl (h1 (by rw [e]; simp))⟩, fun _ => h4, DoneOk.safe hr one h5⟩
    obtain ⟨l, u, r, e1, e2, e3⟩ := h2 e
    refine ⟨u, e3, ?_⟩
    rw [e2]
    rw [e1] at hr
    exact rises_count hr
structure DeedEnd (ps : List Pl) (ws : List Wr) (ks' : List Th) : Prop where
  ok : DoneOk (things ps) (decide (ws.length = 1)) ws ps
  ris : Rises (things (doneP ps ws))
  perm : ks'.Perm (things (doneP ps ws))
  rows : Rises (things ps)
theorem deed_ok {ps : List Pl} {w s : Int} {h : Nat} {ks ks' : List Th} {ws : List Wr} (g : Geo ps w h) (hs : 0 ≤ s) (hr : Rises (things ps)) (hk : ks.Perm (things ps)) (d : Deed ps w s h ks ws ks') : DeedEnd ps ws ks' := by
  cases d with
  | none => exact ⟨trivial, hr, hk, hr⟩
  | worth key am p hp =>
    obtain ⟨t, ht, rfl⟩ := place_some hp
    have hpl := (List.getElem?_eq_some_iff.mp ht).1
    have e := set_known hr ht am
    have ed : things (doneP ps [((p : Int), some (t.1, am))]) = setTh (things ps) t.1 am := by simpa [doneP] using e
    refine ⟨⟨⟨⟨by simp, by simpa using hpl⟩, fun h => by simp at h, fun u hu => .inr ⟨t, by simpa using ht, ?_⟩⟩, fun h => absurd rfl h, trivial⟩, ?_, ?_, hr⟩
    · have : (t.1, am) = u := by simpa using hu
      rw [← this]
    · rw [ed]; exact setTh_rises hr _ _
    · rw [ed]; exact hk.map _
  | take key p hp =>
    obtain ⟨t, ht, rfl⟩ := place_some hp
    have hpl := (List.getElem?_eq_some_iff.mp ht).1
    have e := del_known hr ht
    have ed : things (doneP ps [((p : Int), none)]) = delTh (things ps) t.1 := by simpa [doneP] using e
    refine ⟨⟨⟨⟨by simp, by simpa using hpl⟩, fun _ => .inl rfl, fun u hu => by simp at hu⟩, fun h => absurd rfl h, trivial⟩, ?_, ?_, hr⟩
    · rw [ed]; exact delTh_rises hr _
    · rw [ed]; exact hk.filter _
  | put key am hp hc =>
    have ev := evens_of g hs hr hp hc
    have ok := ev.ok
    have on := ev_done ok am
    have hth := on.things
    rw [finC_things ok am] at hth
    refine ⟨?_, ?_, ?_, hr⟩
    · generalize fN ps w (lowK ps w s h key) key = f at *
      generalize zN w (lowK ps w s h key) = z at *
      generalize decide ((evW ps f z key am).length = 1) = one
      unfold evW
      refine DoneOk.safe hr _ ?_
      have := ev_safe (ws := []) (F := fun s2 => DoneOk (things ps) one [(((newAim ps f z key : Nat) : Int), some (key, am))] s2) ok am fun s2 hs2 hl2 => ?_
      · rwa [List.append_nil] at this
      · obtain ⟨a1, a2, a3⟩ := ev_last ok am hs2 hl2
        exact ⟨⟨⟨by simp, by simpa using a2⟩, fun h => by simp at h, fun t _ => .inl (by simpa using a1)⟩, fun h => absurd rfl h, trivial⟩
    · rw [hth]; exact insTh_rises hr ok.no
    · rw [hth]
      exact (hk.append (List.Perm.refl [(key, am)])).trans (insTh_perm _ _).symm
theorem Deed.len {ps : List Pl} {w s : Int} {h : Nat} {ks ks' : List Th} {ws : List Wr} (d : Deed ps w s h ks ws ks') : ks'.length ≤ ks.length + 1 := by
  cases d with
  | none => omega
  | worth key am p hp => simp [setTh]
  | take key p hp => have := List.length_filter_le (fun t : Th => decide (t.1 ≠ key)) ks; unfold delTh; omega
  | put key am hp hc => simp
theorem DoneOk.in_ {ts : List Th} {one : Bool} : ∀ {ws : List Wr} {s : List Pl}, DoneOk ts one ws s → OkW s.length ws
  | [], s, _ => fun w hw => by simp at hw
  | w :: ws, s, h => fun v hv => by
    rcases List.mem_cons.mp hv with rfl | hv
    · exact h.1.1
    · have := DoneOk.in_ h.2.2 v hv
      simpa using this
theorem Geo.done {ps : List Pl} {w : Int} {h : Nat} (g : Geo ps w h) (ws : List Wr) : Geo (doneP ps ws) w h := ⟨by rw [doneP_len]; exact g.len, g.h10, g.w1, g.w2⟩
theorem keys_mem {ks ts : List Th} (h : ks.Perm ts) (key : Int) : key ∈ ks.map (·.1) ↔ key ∈ ts.map (·.1) := (h.map _).mem_iff
theorem count_plD (s : List Pl) (t : Th) : @List.count Pl instBEqOfDecidableEq (some t) s = (things s).count t := by
  have h1 : @List.count Pl instBEqOfDecidableEq (some t) s = s.countP fun z => decide (z = some t) := rfl
  have h2 : (things s).count t = (things s).countP fun u => decide (u = t) := by
    unfold List.count
    refine List.countP_congr fun u _ => ?_
    simp
  rw [h1, h2]
  induction s with
  | nil => rfl
  | cons p s ih => cases p with
    | none => simpa [things] using ih rfl (by
        unfold List.count
        refine List.countP_congr fun u _ => ?_
        simp)
    | some u =>
      have e : things (some u :: s) = u :: things s := rfl
      rw [e, List.countP_cons, List.countP_cons, ih rfl (by
        unfold List.count
        refine List.countP_congr fun u _ => ?_
        simp)]
      simp
theorem wr_at {ws : List Wr} {i : Nat} (h : i < ws.length) : atI (ws.map eWr.enc) (i : Int) = some (.tup [.int ws[i].1, ePl.enc ws[i].2]) := by
  rw [atI_lt (by omega) (by simp; omega)]
  simp
def keysOf (ps : List Pl) : List Int := (things ps).map (·.1)
theorem keys_place (ps : List Pl) (key : Int) : key ∈ keysOf ps ↔ placeN ps key ≠ none := by
  constructor
  · intro h hn
    unfold keysOf at h
    obtain ⟨t, ht, e⟩ := List.mem_map.mp h
    exact place_none hn t ht e
  · intro h
    cases hp : placeN ps key with
    | none => exact absurd hp h
    | some p =>
      obtain ⟨t, ht, e⟩ := place_some hp
      unfold keysOf
      refine List.mem_map.mpr ⟨t, ?_, e⟩
      rw [← cells_things]
      exact List.mem_map.mpr ⟨(p, t), ((cells_on ps).mem_iff (p, t)).mpr ht, rfl⟩
/-! ### the model: a dict of numbers by numbers -/
abbrev mEnc (e : Th) : Key × D := ((Sum.inl e.1 : Key), D.int e.2)
abbrev mdl (ks : List Th) : Cell := .dct (ks.map mEnc)
theorem mdl_val (ks : List Th) (key : Int) : valD (ks.map mEnc) (Sum.inl key) = (ks.find? fun e => decide (e.1 = key)).map fun e => D.int e.2 := by
  unfold valD
  induction ks with
  | nil => rfl
  | cons e ks ih =>
    rw [List.map_cons, List.find?_cons, List.find?_cons]
    by_cases h : e.1 = key
    · have : decide ((mEnc e).1 = Sum.inl key) = true := by simp [h]
      rw [this]; simp [h]
    · have : decide ((mEnc e).1 = Sum.inl key) = false := by simp [h]
      rw [this]; simp [h]; simpa using ih
theorem mdl_some (ks : List Th) (key : Int) : (valD (ks.map mEnc) (Sum.inl key)).isSome = decide (key ∈ ks.map (·.1)) := by
  rw [mdl_val, Option.isSome_map]
  induction ks with
  | nil => rfl
  | cons e ks ih =>
    rw [List.find?_cons]
    by_cases h : e.1 = key
    · simp [h]
    · have h2 : ¬ key = e.1 := fun x => h x.symm
      have e1 : decide (key ∈ (e :: ks).map (·.1)) = decide (key ∈ ks.map (·.1)) := decide_eq_decide.mpr (by rw [List.map_cons, List.mem_cons]; exact ⟨fun x => x.resolve_left h2, .inr⟩)
      have e2 : decide (e.1 = key) = false := by simpa using h
      rw [e1, ← ih, e2]
theorem mdl_put (ks : List Th) (key am : Int) : putD (ks.map mEnc) (Sum.inl key) (D.int am) = (if key ∈ ks.map (·.1) then setTh ks key am else ks ++ [(key, am)]).map mEnc := by
  have ha : ((ks.map mEnc).any fun kv => decide (kv.1 = (Sum.inl key : Key))) = decide (key ∈ ks.map (·.1)) := by
    induction ks with
    | nil => rfl
    | cons e ks ih =>
      rw [List.map_cons, List.any_cons, ih, List.map_cons]
      by_cases h : e.1 = key
      · simp [h]
      · have h2 : ¬ key = e.1 := fun x => h x.symm
        simp [h, h2]
  unfold putD
  rw [ha]
  by_cases h : key ∈ ks.map (·.1)
  · rw [if_pos (by simpa using h), if_pos h]
    unfold setTh
    rw [List.map_map, List.map_map]
    refine List.map_congr_left fun e _ => ?_
    simp only [Function.comp]
    by_cases he : e.1 = key
    · simp [he]
    · simp [he]
  · rw [if_neg (by simpa using h), if_neg h]; simp
theorem mdl_drop (ks : List Th) (key : Int) : dropD (ks.map mEnc) (Sum.inl key) = (delTh ks key).map mEnc := by
  unfold dropD delTh
  rw [List.filter_map]
  congr 1
  refine List.filter_congr fun e _ => ?_
  simp
theorem val_put (kvs : List (Key × D)) (k : Key) (v : D) : valD (putD kvs k v) k = some v := by
  unfold putD
  split
  · rename_i h
    unfold valD
    induction kvs with
    | nil => simp at h
    | cons e r ih =>
      rw [List.map_cons, List.find?_cons]
      by_cases he : e.1 = k
      · simp [he]
      · have : (r.any fun kv => decide (kv.1 = k)) = true := by simpa [he] using h
        simp [he]; simpa using ih this
  · rename_i h
    unfold valD
    have : kvs.find? (fun kv => decide (kv.1 = k)) = none := by
      rw [List.find?_eq_none]
      intro e he hk
      exact h (List.any_eq_true.mpr ⟨e, he, hk⟩)
    rw [List.find?_append, this]; simp
theorem mdl_keys (ks : List Th) : (ks.map mEnc).map (·.1) = (ks.map (·.1)).map Sum.inl := by rw [List.map_map, List.map_map]; rfl
theorem mdl_cl (n : Nat) (ks : List Th) : ClC n (mdl ks) := by
  show Cls' n ((ks.map mEnc).map (·.2))
  rw [List.map_map]
  exact cls_map eInt n (ks.map (·.2)) |> fun h => by simpa [List.map_map, eInt, Function.comp_def] using h
/-! ### a cell is changed behind a call -/
theorem ClS.set {S : Store} (hS : ClS S) {k : Nat} {c : Cell} (hc : ClC S.length c) : ClS (S.set k c) := by
  intro i d e
  rw [List.length_set]
  by_cases h : k = i
  · subst h
    by_cases hk : k < S.length
    · rw [List.getElem?_set_self hk] at e; cases e; exact hc
    · rw [List.getElem?_eq_none (by simp; omega)] at e; cases e
  · rw [List.getElem?_set_ne h] at e; exact hS i d e
theorem ret_set {S G : Store} {d : D} {c : Cell} {k : Nat} {Q : PQ} (hS : ClS S) (hc : ClC S.length c) (hd : Cl S.length d) (h : Q d (S.set k c)) : RetQ S.length Q d (S.set k c ++ G) :=
  .inr ⟨S.set k c, d, Gc.drop (by simp) (hS.set hc) hd, h⟩
theorem ret_set_list {S S' : Store} {c : Cell} {k j : Nat} {ds : List D} {Q : PQ} (hS : ClS S) (hc : ClC S.length c) (h0 : ∀ i, i < S.length → S'[i]? = (S.set k c)[i]?) (hj : S'[j]? = some (.lst ds)) (hnj : S.length ≤ j) (hd : Cls' S.length ds) (h : Q (.ref S.length) (S.set k c ++ [.lst ds])) : RetQ S.length Q (.ref j) S' :=
  .inr ⟨_, _, Gc.one (S0 := S.set k c) (n := S.length) (by simp) (hS.set hc) h0 hj hnj hd, h⟩
theorem shp_cl (n : Nat) (ps : List Pl) : ClC n (shp ps) := cls_map ePl n ps
/-! ### small bounds, keys that are drawn -/
def sp_law_small : SPf
  | [.int _], S, Q, _ => ∀ t w s : Int, Good t w s → Q (bnd t w s) S
  | _, _, _, _ => False
def sp_law_key2 : SPf
  | [.ref n, .int _, .bl _], S, Q, _ => ∃ ns : List Int, S[n]? = some (.lst (ns.map .int)) ∧ ns.length ≤ 100000 ∧ ∀ k : Int, Q (.int k) S
  | _, _, _, _ => False
theorem len_law_small : ∀ ds S Q E, sp_law_small ds S Q E → ds.length = 1 := by
  intro ds S Q E h; unfold sp_law_small at h; split at h <;> first | rfl | exact h.elim
theorem len_law_key2 : ∀ ds S Q E, sp_law_key2 ds S Q E → ds.length = 3 := by
  intro ds S Q E h; unfold sp_law_key2 at h; split at h <;> first | rfl | exact h.elim
abbrev n_law_small : List Str := ["cell", "number", "top", "step", "more"]
def w_law_small : WS :=
  wsSeq (wsSet 1 (wCall sp_law_spread [wVar 0] [])) (wsSeq (wsSet 2 (wOp pIx (wLst [ret (.int 0), ret (.int 1), ret (.int 1), ret (.int 2), ret (.int 2), ret (.int 2), ret (.int 3), ret (.int 4)]) (wOp pMod (wVar 1) (ret (.int 8))))) (wsSeq (wsSet 3 (wOp pAdd (ret (.int 1)) (wOp pMod (wOp pDiv (wVar 1) (ret (.int 8))) (wOp pDiv (ret (.int 9)) (wOp pAdd (wVar 2) (ret (.int 2))))))) (wsSeq (wsSet 4 (wOp pMod (wOp pDiv (wVar 1) (ret (.int 320))) (wOp pIx (wLst [ret (.int 3), wOp pIx (wLst [ret (.int 9), ret (.int 9), ret (.int 7), ret (.int 3), ret (.int 3)]) (wVar 2)]) (wOp pMod (wOp pDiv (wVar 1) (ret (.int 160))) (ret (.int 2)))))) (wsRet (wTup [wVar 2, wOp pAdd (wOp pMul (wVar 3) (wOp pAdd (wVar 2) (ret (.int 2)))) (wVar 4), wVar 3])))))

abbrev n_law_key2 : List Str := ["keys", "cell", "crowd", "far", "at", "wide"]
def w_law_key2_r1 : WS :=
  wsSeq (wsIf (wOp pEq (wVar 4) (wB bLen [wVar 0])) (wsRet (wOp pAdd (wOp pAdd (wOp pIx (wVar 0) (wOp1 pNeg (ret (.int 1)))) (ret (.int 1))) (wOp pMod (wVar 3) (wVar 5)))) (wsNil)) (wsRet (wOp pAdd (wOp pAdd (wOp pIx (wVar 0) (wOp pSub (wVar 4) (ret (.int 1)))) (ret (.int 1))) (wOp pMod (wVar 3) (wB bMax [ret (.int 1), wOp pSub (wOp pSub (wOp pIx (wVar 0) (wVar 4)) (wOp pIx (wVar 0) (wOp pSub (wVar 4) (ret (.int 1))))) (ret (.int 1))]))))
def w_law_key2_r2 : WS :=
  wsSeq (wsSet 4 (wOp pMod (wOp pIx (wLst [wOp pDiv (wVar 1) (ret (.int 7)), wOp pDiv (wB bLen [wVar 0]) (ret (.int 2))]) (wB bInt [wVar 2])) (wOp pAdd (wB bLen [wVar 0]) (ret (.int 1))))) (wsSeq (wsSet 5 (wOp pIx (wLst [ret (.int 1000), wOp pPow (ret (.int 10)) (ret (.int 48))]) (wB bInt [wOr (wVar 2) (wOp pEq (wOp pMod (wOp pDiv (wVar 1) (ret (.int 7))) (ret (.int 2))) (ret (.int 1)))]))) (wsSeq (wsIf (wOp pEq (wVar 4) (ret (.int 0))) (wsRet (wOp pSub (wOp pSub (wOp pIx (wVar 0) (ret (.int 0))) (ret (.int 1))) (wOp pMod (wVar 3) (wVar 5)))) (wsNil)) (w_law_key2_r1)))
def w_law_key2 : WS :=
  wsSeq (wsSet 3 (wOp pMod (wVar 1) (wOp pPow (ret (.int 10)) (ret (.int 50))))) (wsSeq (wsIf (wOp pEq (wVar 0) (wLst [])) (wsRet (wVar 3)) (wsNil)) (w_law_key2_r2))

theorem ob_law_small : Ob n_law_small sp_law_small w_law_small := by
  intro ds S Q E hS hd h
  unfold sp_law_small at h
  split at h
  · rename_i c
    simp [w_law_small, startD, sp_law_spread]
    intro n hn0 hn1
    have h8 : 0 ≤ n % 8 ∧ n % 8 < 8 := by omega
    obtain ⟨d, hd1, t, rfl, ht0, ht4⟩ := atI_mem (xs := [D.int 0, .int 1, .int 1, .int 2, .int 2, .int 2, .int 3, .int 4]) (i := n % 8) (P := fun d => ∃ t, d = .int t ∧ 0 ≤ t ∧ t ≤ 4) h8.1 (by simpa using h8.2) (by simp)
    refine ⟨_, hd1, ?_⟩
    simp
    have hdiv : 1 ≤ 9 / (t + 2) ∧ 9 / (t + 2) ≤ 4 ∧ 9 / (t + 2) * (t + 2) ≤ 9 := by
      have : t = 0 ∨ t = 1 ∨ t = 2 ∨ t = 3 ∨ t = 4 := by omega
      rcases this with rfl | rfl | rfl | rfl | rfl <;> decide
    refine ⟨divOk (by omega) (by omega), by omega, ?_⟩
    generalize hs : 1 + n / 8 % (9 / (t + 2)) = s
    have hs1 : 1 ≤ s ∧ s ≤ 9 / (t + 2) := by
      have h1 := Int.emod_nonneg (n / 8) (show 9 / (t + 2) ≠ 0 by omega)
      have h2 := Int.emod_lt_of_pos (n / 8) (show 0 < 9 / (t + 2) by omega)
      omega
    have hl : 2 ≤ s * (t + 2) ∧ s * (t + 2) ≤ 9 := by
      have h1 : s * (t + 2) ≤ 9 / (t + 2) * (t + 2) := Int.mul_le_mul_of_nonneg_right hs1.2 (by omega)
      have h2 : 1 * 2 ≤ s * (t + 2) := Int.mul_le_mul hs1.1 (by omega) (by decide) (by omega)
      omega
    obtain ⟨d, hd2, m, rfl, hm⟩ := atI_mem (xs := [D.int 9, D.int 9, D.int 7, D.int 3, D.int 3]) (i := t) (P := fun d => ∃ t : Int, d = .int t ∧ 1 ≤ t ∧ t ≤ 9) (by omega) (by simp; omega) (by simp)
    refine ⟨_, hd2, ?_⟩
    obtain ⟨d, hd3, m2, rfl, hm2⟩ := atI_mem (xs := [D.int 3, D.int m]) (i := n / 160 % 2) (P := fun d => ∃ t : Int, d = .int t ∧ 1 ≤ t ∧ t ≤ 9) (by omega) (by simp; omega) (by simp; omega)
    refine ⟨_, hd3, ?_⟩
    have h1 := Int.emod_nonneg (n / 320) (show m2 ≠ 0 by omega)
    have h2 := Int.emod_lt_of_pos (n / 320) (show 0 < m2 by omega)
    simp
    refine ⟨by omega, mulR (by omega), ret_pure hS (by simp [Cl, Cls']) (h _ _ _ ⟨ht0, ht4, by omega, by omega, by omega, by omega⟩)⟩
  · exact h.elim
theorem ob_law_key2 : Ob n_law_key2 sp_law_key2 w_law_key2 := by
  intro ds S Q E hS hd h
  unfold sp_law_key2 at h
  split at h
  · rename_i n c b
    obtain ⟨ns, hn, hl, hq⟩ := h
    have fin : ∀ (k : Int) (G : Store), RetQ S.length Q (.int k) (S ++ G) := fun k G => ret_pure hS (by simp only [Cl]) (hq k)
    simp [w_law_key2, startD]
    refine eq_list eInt (xs := ns) (ys := []) (by simpa [eInt] using app_get hn) (by simp) ?_
    simp
    by_cases he : ns = []
    · exact .inr ⟨he, fin _ _⟩
    · have hpos : 0 < ns.length := List.length_pos_iff.mpr he
      have gt : ∀ i : Int, 0 ≤ i → i < ns.length → ∃ k, atI (ns.map D.int) i = some (.int k) := fun i h0 h1 => by
        rw [atI_lt h0 (by simpa using h1)]; simp
      obtain ⟨kl, hkl⟩ : ∃ k, atI (ns.map D.int) (-1) = some (.int k) := by
        rw [atI_last (by simpa using hpos)]; simp
      refine .inl ⟨he, ?_⟩
      obtain ⟨k00, hk00⟩ := gt 0 (by omega) (by omega)
      have rest : ∀ (at' w : Int) (G : Store), 0 < w → at' ≠ 0 → 0 ≤ at' → at' < ns.length + 1 → w_law_key2_r1 [some (.ref n), some (.int c), some (.bl b), some (.int (c % 100000000000000000000000000000000000000000000000000)), some (.int at'), some (.int w)] (S ++ G) { nx := fun x S' => RetQ S.length Q D.non S', rt := RetQ S.length Q } (fun c x S' => RetE S.length E c S') := by
        intro at' w G hw h0 a0 a1
        simp [w_law_key2_r1, app_get hn, hkl]
        by_cases hl2 : at' = ns.length
        · exact .inr ⟨hl2, hw, fin _ _⟩
        · obtain ⟨k1, hk1⟩ := gt at' (by omega) (by omega)
          obtain ⟨k0, hk0⟩ := gt (at' - 1) (by omega) (by omega)
          refine .inl ⟨hl2, _, hk0, ?_⟩
          simp [app_get hn, hk1, hk0]
          refine ⟨?_, fin _ _⟩
          split <;> omega
      cases b with
      | true =>
        simp [w_law_key2_r2, app_get hn, jx1]
        generalize hat : (ns.length : Int) / 2 % ((ns.length : Int) + 1) = at'
        have a0 := Int.emod_nonneg ((ns.length : Int) / 2) (show (ns.length : Int) + 1 ≠ 0 by omega)
        have a1 := Int.emod_lt_of_pos ((ns.length : Int) / 2) (show (0 : Int) < ns.length + 1 by omega)
        try refine ⟨by omega, ?_⟩
        by_cases h0 : at' = 0
        · exact .inr ⟨h0, _, hk00, fin _ _⟩
        · exact .inl ⟨h0, rest _ _ _ (by decide) h0 (by omega) (by omega)⟩
      | false =>
        simp [w_law_key2_r2, app_get hn, jx0]
        generalize hat : c / 7 % ((ns.length : Int) + 1) = at'
        have a0 := Int.emod_nonneg (c / 7) (show (ns.length : Int) + 1 ≠ 0 by omega)
        have a1 := Int.emod_lt_of_pos (c / 7) (show (0 : Int) < ns.length + 1 by omega)
        try refine ⟨by omega, ?_⟩
        obtain ⟨d, hd1, wd, rfl, hwd⟩ := atI_mem (xs := [D.int 1000, D.int 1000000000000000000000000000000000000000000000000]) (i := if c / 7 % 2 = 1 then 1 else 0) (P := fun d => ∃ t : Int, d = .int t ∧ 0 < t) (by split <;> omega) (by simp; split <;> omega) (by simp)
        refine ⟨_, hd1, ?_⟩
        by_cases h0 : at' = 0
        · exact .inr ⟨h0, _, hk00, hwd, fin _ _⟩
        · exact .inl ⟨h0, rest _ _ _ hwd h0 (by omega) (by omega)⟩
  · exact h.elim
/-! ### what an evened stretch holds, part by part -/
theorem csL_mem {ps : List Pl} {f : Nat} {c : Nat × Th} : c ∈ csL ps f ↔ ps[c.1]? = some (some c.2) ∧ c.1 < f := by
  unfold csL
  rw [List.mem_filter, (cells_on ps).mem_iff]; simp
theorem csM_mem {ps : List Pl} {f z : Nat} {c : Nat × Th} : c ∈ csM ps f z ↔ ps[c.1]? = some (some c.2) ∧ f ≤ c.1 ∧ c.1 < f + z := by
  unfold csM
  rw [List.mem_filter, (cells_on ps).mem_iff]; simp
theorem csR_mem {ps : List Pl} {f : Nat} {c : Nat × Th} : c ∈ csR ps f ↔ ps[c.1]? = some (some c.2) ∧ f ≤ c.1 := by
  unfold csR
  rw [List.mem_filter, (cells_on ps).mem_iff]; simp
theorem evS_out {ps : List Pl} {f z : Nat} {key : Int} (h : EvOk ps f z key) (am : Int) {x : Nat} (hx : x < f ∨ f + z ≤ x) : (evS ps f z (key, am))[x]? = ps[x]? := by
  have on := evS_on h am
  have hl := evS_len ps f z (key, am)
  by_cases hx2 : x < ps.length
  · rw [List.getElem?_eq_getElem hx2]
    cases e : ps[x] with
    | some t =>
      have e1 : ps[x]? = some (some t) := by rw [List.getElem?_eq_getElem hx2, e]
      refine (on.mem_iff (x, t)).mp ?_
      unfold finC
      rcases hx with hx | hx
      · exact List.mem_append_left _ (csL_mem.mpr ⟨e1, hx⟩)
      · exact List.mem_append_right _ (List.mem_append_right _ (csR_mem.mpr ⟨e1, hx⟩))
    | none =>
      have e1 : ps[x]? = some none := by rw [List.getElem?_eq_getElem hx2, e]
      refine on.no x (by omega) fun c hc hcx => ?_
      unfold finC at hc
      rcases List.mem_append.mp hc with hc | hc
      · have := (csL_mem.mp hc).1
        rw [show c.1 = x by omega, e1] at this; simp at this
      · rcases List.mem_append.mp hc with hc | hc
        · have h1 : c.1 ∈ aimsN f z ((csM ps f z).length + 1) := (List.of_mem_zip (show (c.1, c.2) ∈ _ from hc)).1
          have := aimsN_mem (by have := h.room; omega) h1
          omega
        · have := (csR_mem.mp hc).1
          rw [show c.1 = x by omega, e1] at this; simp at this
  · rw [List.getElem?_eq_none (by omega), List.getElem?_eq_none (by omega)]
theorem evS_take {ps : List Pl} {f z : Nat} {key : Int} (h : EvOk ps f z key) (am : Int) : (evS ps f z (key, am)).take f = ps.take f := by
  apply List.ext_getElem?
  intro x
  by_cases hx : x < f
  · rw [List.getElem?_take_of_lt hx, List.getElem?_take_of_lt hx, evS_out h am (.inl hx)]
  · have hl := evS_len ps f z (key, am)
    rw [List.getElem?_eq_none (by simp; omega), List.getElem?_eq_none (by simp; omega)]
theorem evS_drop {ps : List Pl} {f z : Nat} {key : Int} (h : EvOk ps f z key) (am : Int) : (evS ps f z (key, am)).drop (f + z) = ps.drop (f + z) := by
  apply List.ext_getElem?
  intro x
  rw [List.getElem?_drop, List.getElem?_drop, evS_out h am (.inr (by omega))]
theorem countP_iv (A B : Nat) (hAB : A ≤ B) : ∀ n, (List.range n).countP (fun j => decide (A ≤ j ∧ j < B)) = min n B - min n A
  | 0 => by simp
  | n + 1 => by
    rw [List.range_succ, List.countP_append, countP_iv A B hAB n]
    by_cases h : A ≤ n ∧ n < B
    · simp [h]; omega
    · rw [List.countP_cons_of_neg (by simpa using h)]
      simp; omega
theorem aims_count {f z n a y : Nat} : (aimsN f z n).countP (fun x => decide (a ≤ x ∧ x < a + y)) = (List.range n).countP fun j => decide (a ≤ aimAt f z n j ∧ aimAt f z n j < a + y) := by
  unfold aimsN
  rw [List.countP_map]; rfl
/-- of the targets on P parts alike, at most c lie in one of them, where n ≤ c * P -/
theorem aims_part {f st P n k c : Nat} (hn : 0 < n) (hst : 0 < st) (hP : 0 < P) (hc : n ≤ c * P) : (aimsN f (P * st) n).countP (fun x => decide (f + k * st ≤ x ∧ x < f + k * st + st)) ≤ c := by
  rw [aims_count]
  let A := (k * n + P - 1) / P
  have hA : (List.range n).countP (fun j => decide (f + k * st ≤ aimAt f (P * st) n j ∧ aimAt f (P * st) n j < f + k * st + st)) ≤ (List.range n).countP fun j => decide (A ≤ j ∧ j < A + c) := by
    refine List.countP_mono_left fun j _ hj => ?_
    have hj2 : f + k * st ≤ f + j * (P * st) / n ∧ f + j * (P * st) / n < f + k * st + st := by simpa [aimAt] using hj
    obtain ⟨h1, h2⟩ := hj2
    have h1' : k * st ≤ j * (P * st) / n := by omega
    have h2' : j * (P * st) / n < (k + 1) * st := by rw [Nat.add_mul, Nat.one_mul]; omega
    rw [Nat.le_div_iff_mul_le hn] at h1'
    rw [Nat.div_lt_iff_lt_mul hn] at h2'
    have e1 : j * (P * st) = j * P * st := (Nat.mul_assoc ..).symm
    have e2 : k * st * n = k * n * st := by rw [Nat.mul_assoc, Nat.mul_comm st n, Nat.mul_assoc]
    have e3 : (k + 1) * st * n = (k + 1) * n * st := by rw [Nat.mul_assoc, Nat.mul_comm st n, Nat.mul_assoc]
    rw [e1, e2] at h1'
    rw [e1, e3] at h2'
    have a1 : k * n ≤ j * P := Nat.le_of_mul_le_mul_right h1' hst
    have a2 : j * P < (k + 1) * n := Nat.lt_of_mul_lt_mul_right h2'
    have hAle : A ≤ j := by
      show (k * n + P - 1) / P ≤ j
      refine Nat.le_of_lt_succ ((Nat.div_lt_iff_lt_mul hP).mpr ?_)
      rw [Nat.succ_mul]; omega
    have hA2 : k * n ≤ A * P := by
      have := Nat.lt_div_mul_add (a := k * n + P - 1) hP
      show k * n ≤ (k * n + P - 1) / P * P
      omega
    have hAlt : j < A + c := by
      rw [Nat.add_mul, Nat.one_mul] at a2
      refine Nat.lt_of_mul_lt_mul_right (a := P) ?_
      rw [Nat.add_mul]; omega
    simpa using ⟨hAle, hAlt⟩
  rw [countP_iv A (A + c) (by omega)] at hA
  omega
theorem evS_part {ps : List Pl} {f z : Nat} {key : Int} (h : EvOk ps f z key) (am : Int) {a y : Nat} (ha : f ≤ a) (hy : a + y ≤ f + z) :
    (csM (evS ps f z (key, am)) a y).length = (aimsN f z ((csM ps f z).length + 1)).countP (fun x => decide (a ≤ x ∧ x < a + y)) := by
  have on := evS_on h am
  show ((cells (evS ps f z (key, am))).filter fun c => decide (a ≤ c.1 ∧ c.1 < a + y)).length = _
  rw [← on.cells]
  unfold finC
  rw [List.filter_append, List.filter_append]
  have e1 : (csL ps f).filter (fun c => decide (a ≤ c.1 ∧ c.1 < a + y)) = [] := List.filter_eq_nil_iff.mpr fun c hc => by
    have := (csL_mem.mp hc).2; simp; omega
  have e2 : (csR ps (f + z)).filter (fun c => decide (a ≤ c.1 ∧ c.1 < a + y)) = [] := List.filter_eq_nil_iff.mpr fun c hc => by
    have := (csR_mem.mp hc).2; simp; omega
  rw [e1, e2, List.nil_append, List.append_nil, ← List.countP_eq_length_filter]
  have hl : (aimsN f z ((csM ps f z).length + 1)).length = (insTh ((csM ps f z).map (·.2)) (key, am)).length := by rw [aimsN_length, insTh_length, List.length_map]
  have e3 := List.map_fst_zip (l₁ := aimsN f z ((csM ps f z).length + 1)) (l₂ := insTh ((csM ps f z).map (·.2)) (key, am)) (by omega)
  conv => rhs; rw [← e3, List.countP_map]
  rfl
theorem evS_all {ps : List Pl} {f z : Nat} {key : Int} (h : EvOk ps f z key) (am : Int) : (csM (evS ps f z (key, am)) f z).length = (csM ps f z).length + 1 := by
  rw [evS_part h am (Nat.le_refl _) (Nat.le_refl _)]
  have : (aimsN f z ((csM ps f z).length + 1)).countP (fun x => decide (f ≤ x ∧ x < f + z)) = (aimsN f z ((csM ps f z).length + 1)).length := by
    rw [List.countP_eq_length]
    intro x hx
    have := aimsN_mem (by have := h.room; omega) hx
    simpa using this
  rw [this, aimsN_length]
theorem pow_posI (l : Nat) : (0 : Int) < 2 ^ l := Int.pow_pos (by decide)
/-- behind a put no stretch within the evened one has any excess -/
theorem evS_calm {ps : List Pl} {w s : Int} {h : Nat} {key : Int} (g : Geo ps w h) (hs : 0 ≤ s) (ev : Evens ps w s h key) (am : Int) {low k : Nat} (hl : low < lowK ps w s h key) (hk : k * zN w low + zN w low ≤ zN w (lowK ps w s h key)) :
    ((csM (evS ps (fN ps w (lowK ps w s h key) key) (zN w (lowK ps w s h key)) (key, am)) (fN ps w (lowK ps w s h key) key + k * zN w low) (zN w low)).length : Int) ≤ calmI w s low := by
  have hroom := ev.room
  have lh := ev.lh
  rw [evS_part ev.ok am (by omega) (by omega)]
  obtain ⟨_, e2, e3, _⟩ := g.st (l := low) (by omega) key
  obtain ⟨_, e5, e6, _⟩ := g.st lh key
  generalize lowK ps w s h key = l at *
  generalize (csM ps (fN ps w l key) (zN w l)).length = m at *
  generalize fN ps w l key = f at *
  have hz : zN w l = 2 ^ (l - low) * zN w low := by
    have := szI_split (w := w) (show low ≤ l by omega)
    rw [← e5, ← e2] at this
    exact_mod_cast this
  have hp := pow_posI low
  have hp2 := pow_posI (l - low)
  have hcap : capI w s l = (2 ^ low * (w - s * l)) * 2 ^ (l - low) := by
    unfold capI
    rw [Int.mul_comm, show (2 : Int) ^ l = 2 ^ low * 2 ^ (l - low) by rw [← Int.pow_add, show low + (l - low) = l by omega], ← Int.mul_assoc, Int.mul_comm (w - s * l)]
  have hpos : 0 < 2 ^ low * (w - s * l) := by
    refine Int.lt_of_mul_lt_mul_right (a := 2 ^ (l - low)) ?_ (Int.le_of_lt hp2)
    rw [← hcap]; omega
  have hle : 2 ^ low * (w - s * l) ≤ calmI w s low := by
    unfold calmI
    refine Int.mul_le_mul_of_nonneg_left ?_ (Int.le_of_lt hp)
    have : s * (low + 1) ≤ s * l := Int.mul_le_mul_of_nonneg_left (by omega) hs
    omega
  rw [hz]
  have := aims_part (f := f) (st := zN w low) (P := 2 ^ (l - low)) (n := m + 1) (k := k) (c := (2 ^ low * (w - s * l)).toNat) (by omega) (by omega) (Nat.two_pow_pos _) (by
    have : (((2 ^ low * (w - s * l)).toNat * 2 ^ (l - low) : Nat) : Int) = capI w s l := by
      rw [Int.natCast_mul, Int.toNat_of_nonneg (by omega), hcap]; simp
    omega)
  omega
/-- ahead of it the one of the height below had the step times so many boards too many -/
theorem ev_ahead {ps : List Pl} {w s : Int} {h : Nat} {key : Int} (ev : Evens ps w s h key) {l : Nat} (hl : lowK ps w s h key = l + 1) : s * 2 ^ l ≤ ((csM ps (fN ps w l key) (zN w l)).length : Int) - calmI w s l := by
  have := ev.full l (by omega)
  have e : capI w s l - calmI w s l = s * 2 ^ l := by
    unfold capI calmI
    rw [← Int.mul_sub]
    have : w - s * (l : Int) - (w - s * ((l : Int) + 1)) = s := by rw [Int.mul_add, Int.mul_one]; omega
    rw [this, Int.mul_comm]
  omega
/-- the keys, as a comprehension makes them -/
theorem comp_keys {n i : Nat} {ps : List Pl} {ρ : DEnv} {S : Store} {Q : PQ} (hs : S[n]? = some (shp ps)) (hi : i < ρ.length)
    (h : Q (.ref S.length) (S ++ [.lst ((keysOf ps).map .int)])) : compG (atL n (ps.map ePl.enc)) (tN i) (wOp pNe (wVar i) (wTup [])) (wOp pIx (wVar i) (ret (.int 0))) (ps.map ePl.enc) [] ρ S Q := by
  refine comp_pure (fun x => match x with | .tup [.int k, .int _] => some (.int k) | _ => none) hs (fun x hx N hN => ?_) ?_
  · obtain ⟨p, _, rfl⟩ := List.mem_map.mp hx
    have : ∀ d, (ρ.set i d)[i]? = some d := fun d => by simp [hi]
    cases p with
    | none => simpa [ePl, this] using hN
    | some p => simpa [ePl, this, jx0] using hN
  · have : (ps.map ePl.enc).filterMap (fun x => match x with | .tup [.int k, .int _] => some (D.int k) | _ => none) = (keysOf ps).map .int := by
      rw [List.filterMap_map, keysOf, things, List.map_map, List.map_filterMap]
      congr 1
      funext p
      cases p <;> rfl
    rw [this]; exact h
structure OnSh (ps : List Pl) (w s : Int) (h : Nat) : Prop where
  g : Geo ps w h
  h4 : h ≤ 4
  len : ps.length ≤ 1000
  s0 : 0 ≤ s
  s1 : s ≤ 20
  w2 : w ≤ 20
  ris : Rises (things ps)
/-! ### coins -/
theorem csM_count (ps : List Pl) (a y : Nat) : (csM ps a y).length = (List.range ps.length).countP fun i => fullAt ps i && decide (a ≤ i ∧ i < a + y) := by
  unfold csM cells
  rw [← List.countP_eq_length_filter, List.countP_map]
  unfold fullN
  rw [List.countP_filter]
  refine List.countP_congr fun i _ => ?_
  simp [Bool.and_comm]
theorem csM_mono {ps qs : List Pl} (hl : qs.length = ps.length) (h : ∀ i, fullAt qs i = true → fullAt ps i = true) (a y : Nat) : (csM qs a y).length ≤ (csM ps a y).length := by
  rw [csM_count, csM_count, hl]
  refine List.countP_mono_left fun i _ hi => ?_
  rw [Bool.and_eq_true] at hi ⊢
  exact ⟨h i hi.1, hi.2⟩
theorem csM_same {ps qs : List Pl} {f z a y : Nat} (hl : qs.length = ps.length) (h : ∀ i, i < f ∨ f + z ≤ i → qs[i]? = ps[i]?) (hd : a + y ≤ f ∨ f + z ≤ a) : (csM qs a y).length = (csM ps a y).length := by
  rw [csM_count, csM_count, hl]
  refine List.countP_congr fun i _ => ?_
  by_cases hi : a ≤ i ∧ i < a + y
  · have : fullAt qs i = fullAt ps i := by unfold fullAt; rw [h i (by omega)]
    rw [this]
  · simp [hi]
theorem csM_over {ps qs : List Pl} {f z a y : Nat} (hl : qs.length = ps.length) (h : ∀ i, i < f ∨ f + z ≤ i → qs[i]? = ps[i]?) (ha : a ≤ f) (hy : f + z ≤ a + y) :
    (csM qs a y).length + (csM ps f z).length = (csM ps a y).length + (csM qs f z).length := by
  have cut : ∀ xs : List Pl, (csM xs a y).length = (csM xs f z).length + (List.range xs.length).countP fun i => (fullAt xs i && decide (a ≤ i ∧ i < a + y)) && !decide (f ≤ i ∧ i < f + z) := by
    intro xs
    rw [csM_count, csM_count, List.countP_eq_countP_filter_add (List.range xs.length) _ (fun i => decide (f ≤ i ∧ i < f + z)), List.countP_filter, List.countP_filter]
    congr 1
    refine List.countP_congr fun i _ => ?_
    by_cases h1 : f ≤ i ∧ i < f + z
    · have : a ≤ i ∧ i < a + y := by omega
      simp [h1, this]
    · simp [h1]
  have e : ((List.range qs.length).countP fun i => (fullAt qs i && decide (a ≤ i ∧ i < a + y)) && !decide (f ≤ i ∧ i < f + z)) = (List.range ps.length).countP fun i => (fullAt ps i && decide (a ≤ i ∧ i < a + y)) && !decide (f ≤ i ∧ i < f + z) := by
    rw [hl]
    refine List.countP_congr fun i _ => ?_
    by_cases h1 : f ≤ i ∧ i < f + z
    · simp [h1]
    · have : fullAt qs i = fullAt ps i := by unfold fullAt; rw [h i (by omega)]
      rw [this]
  rw [cut qs, cut ps, e]; omega
theorem partHeld_eq {ps : List Pl} {w : Int} {l : Nat} (hl : l ≤ 10) (h1 : 1 ≤ w) (h2 : w ≤ 1000) (k : Nat) : partHeld ps w l k = (csM ps (k * zN w l) (zN w l)).length := by
  have hz := szI_pos (w := w) (l := l) hl h1 h2
  have e : ((zN w l : Nat) : Int) = szI w l := by unfold zN; omega
  unfold partHeld
  rw [← e]
  have e1 : ((k : Int) * (zN w l : Nat)).toNat = k * zN w l := by rw [← Int.natCast_mul]; omega
  have e2 : ((k : Int) * (zN w l : Nat) + (zN w l : Nat)).toNat = k * zN w l + zN w l := by rw [← Int.natCast_mul]; omega
  rw [e1, e2, things_stretch, List.length_map]
theorem parts_two {ps : List Pl} {w : Int} {l h : Nat} (hlh : l ≤ h) (g : Geo ps w h) : partsN ps w l = 2 ^ (h - l) ∧ ps.length = 2 ^ (h - l) * zN w l := by
  have hz := szI_pos (w := w) (l := l) (by have := g.h10; omega) g.w1 g.w2
  have e := szI_split (w := w) hlh
  have hp : (0 : Int) < 2 ^ (h - l) := Int.pow_pos (by decide)
  have ez : ((zN w l : Nat) : Int) = szI w l := by unfold zN; omega
  constructor
  · unfold partsN
    rw [g.len, e]
    have : 2 ^ (h - l) * szI w l + szI w l - 1 = (szI w l - 1) + 2 ^ (h - l) * szI w l := by omega
    rw [this, Int.add_mul_ediv_right _ _ (by omega), Int.ediv_eq_zero_of_lt (by omega) (by omega)]
    have e3 : ((2 ^ (h - l) : Nat) : Int) = 2 ^ (h - l) := by simp
    omega
  · have := g.len
    rw [e, ← ez] at this
    have e2 : ((2 ^ (h - l) * zN w l : Nat) : Int) = 2 ^ (h - l) * (zN w l : Nat) := by simp
    omega
theorem sum_cmp {F G : Nat → Int} {c : Int} : ∀ {n k0 : Nat}, k0 < n → (∀ k, k < n → k ≠ k0 → F k ≤ G k) → F k0 + c ≤ G k0 → ((List.range n).map F).sum + c ≤ ((List.range n).map G).sum
  | 0, k0, h, _, _ => absurd h (by omega)
  | n + 1, k0, h, ha, h0 => by
    rw [List.range_succ, List.map_append, List.map_append, List.sum_append, List.sum_append]
    simp only [List.map_cons, List.map_nil, List.sum_cons, List.sum_nil, Int.add_zero]
    by_cases hk : k0 = n
    · subst hk
      have : ∀ m, m ≤ k0 → ((List.range m).map F).sum ≤ ((List.range m).map G).sum := by
        intro m
        induction m with
        | zero => intro _; simp
        | succ m ih =>
          intro hm
          rw [List.range_succ, List.map_append, List.map_append, List.sum_append, List.sum_append]
          simp only [List.map_cons, List.map_nil, List.sum_cons, List.sum_nil, Int.add_zero]
          have := ha m (by omega) (by omega)
          have := ih (by omega)
          omega
      have := this k0 (Nat.le_refl _)
      omega
    · have := sum_cmp (n := n) (k0 := k0) (F := F) (G := G) (c := c) (by omega) (fun k hk1 hk2 => ha k (by omega) hk2) h0
      have := ha n (by omega) (fun e => hk e.symm)
      omega
theorem sum_add (F G : Nat → Int) (n : Nat) : ((List.range n).map fun k => F k + G k).sum = ((List.range n).map F).sum + ((List.range n).map G).sum := by
  induction n with
  | zero => simp
  | succ n ih =>
    rw [List.range_succ, List.map_append, List.map_append, List.map_append, List.sum_append, List.sum_append, List.sum_append, ih]
    simp only [List.map_cons, List.map_nil, List.sum_cons, List.sum_nil, Int.add_zero]
    omega
theorem sum_le {F G : Nat → Int} {n : Nat} (h : ∀ k, k < n → F k ≤ G k) : ((List.range n).map F).sum ≤ ((List.range n).map G).sum := by
  cases n with
  | zero => simp
  | succ n =>
    have := sum_cmp (F := F) (G := G) (c := 0) (n := n + 1) (k0 := 0) (by omega) (fun k hk _ => h k hk) (by have := h 0 (by omega); omega)
    omega
theorem exK_eq {ps : List Pl} {w s : Int} {l : Nat} (hl : l ≤ 10) (h1 : 1 ≤ w) (h2 : w ≤ 1000) (k : Nat) : exK ps w s l k = max 0 (((csM ps (k * zN w l) (zN w l)).length : Int) - calmI w s l) := by
  unfold exK
  rw [partHeld_eq hl h1 h2]
  split <;> omega
/-- where nothing comes to a place that was empty, the excess does not rise -/
theorem excess_mono {ps qs : List Pl} {w s : Int} {h : Nat} (g : Geo ps w h) (hl : qs.length = ps.length) (hf : ∀ i, fullAt qs i = true → fullAt ps i = true) : excessI qs w s h ≤ excessI ps w s h := by
  refine sum_le fun l hlh => ?_
  unfold excessAt
  have g' : Geo qs w h := ⟨by rw [hl]; exact g.len, g.h10, g.w1, g.w2⟩
  rw [(parts_two (by omega) g).1, (parts_two (by omega) g').1]
  refine sum_le fun k _ => ?_
  have := g.h10
  rw [exK_eq (by omega) g.w1 g.w2, exK_eq (by omega) g.w1 g.w2]
  have := csM_mono hl hf (k * zN w l) (zN w l)
  omega
theorem fN_eq {ps : List Pl} {w : Int} {h l : Nat} (g : Geo ps w h) (hl : l ≤ h) (key : Int) : fN ps w l key = seatN ps key ps.length / zN w l * zN w l := by
  obtain ⟨e1, e2, _⟩ := g.st hl key
  have : ((fN ps w l key : Nat) : Int) = ((seatN ps key ps.length / zN w l * zN w l : Nat) : Int) := by
    rw [e1]; unfold fstI; rw [← e2]; simp
  exact_mod_cast this
theorem zN_split {w : Int} {h l1 l2 : Nat} (hl : l1 ≤ l2) (h2 : l2 ≤ 10) (w1 : 1 ≤ w) (w2 : w ≤ 1000) : zN w l2 = 2 ^ (l2 - l1) * zN w l1 := by
  have e := szI_split (w := w) hl
  have p1 := szI_pos (w := w) (l := l1) (by omega) w1 w2
  have p2 := szI_pos (w := w) (l := l2) (by omega) w1 w2
  have e1 : ((zN w l1 : Nat) : Int) = szI w l1 := by unfold zN; omega
  have e2 : ((zN w l2 : Nat) : Int) = szI w l2 := by unfold zN; omega
  rw [← e1, ← e2] at e
  exact_mod_cast e
theorem nest {ps : List Pl} {w : Int} {h l1 l2 : Nat} (g : Geo ps w h) (h12 : l1 ≤ l2) (hl : l2 ≤ h) (key : Int) : fN ps w l2 key ≤ fN ps w l1 key ∧ fN ps w l1 key + zN w l1 ≤ fN ps w l2 key + zN w l2 := by
  have hh := g.h10
  obtain ⟨_, _, a3, a4, a5, _⟩ := g.st (l := l1) (by omega) key
  obtain ⟨_, _, b3, b4, b5, _⟩ := g.st hl key
  have f1 := fN_eq g (show l1 ≤ h by omega) key
  have f2 := fN_eq g hl key
  rw [f1] at a4 a5 ⊢
  rw [f2] at b4 b5 ⊢
  have e := zN_split (h := h) (w := w) h12 (by omega) g.w1 g.w2
  generalize seatN ps key ps.length = x at *
  generalize zN w l1 = z1 at *
  generalize zN w l2 = z2 at *
  generalize 2 ^ (l2 - l1) = P at *
  subst e
  have e1 : x / (P * z1) * (P * z1) = x / (P * z1) * P * z1 := (Nat.mul_assoc ..).symm
  have e2 : x / (P * z1) * (P * z1) + P * z1 = (x / (P * z1) + 1) * P * z1 := by rw [Nat.mul_assoc, Nat.add_mul, Nat.one_mul]
  rw [e2] at b5 ⊢
  rw [e1] at b4 ⊢
  constructor
  · exact Nat.mul_le_mul_right _ ((Nat.le_div_iff_mul_le (by omega)).mpr b4)
  · have : x / z1 < (x / (P * z1) + 1) * P := (Nat.div_lt_iff_lt_mul (by omega)).mpr b5
    have e3 : x / z1 * z1 + z1 = (x / z1 + 1) * z1 := by rw [Nat.add_mul, Nat.one_mul]
    rw [e3]
    exact Nat.mul_le_mul_right _ this
theorem k_apart {k k0 z f e : Nat} (h1 : k0 * z ≤ f) (h2 : e ≤ k0 * z + z) (hk : k ≠ k0) : k * z + z ≤ f ∨ e ≤ k * z := by
  rcases Nat.lt_or_ge k k0 with h | h
  · left
    have : (k + 1) * z ≤ k0 * z := Nat.mul_le_mul_right _ h
    rw [Nat.add_mul, Nat.one_mul] at this; omega
  · right
    have : (k0 + 1) * z ≤ k * z := Nat.mul_le_mul_right _ (by omega)
    rw [Nat.add_mul, Nat.one_mul] at this; omega
theorem seat_part {ps : List Pl} {w : Int} {h l : Nat} (g : Geo ps w h) (hl : l ≤ h) (key : Int) : seatN ps key ps.length / zN w l < partsN ps w l := by
  obtain ⟨e1, e2⟩ := parts_two hl g
  obtain ⟨_, _, a3, _⟩ := g.st hl key
  rw [e1, Nat.div_lt_iff_lt_mul (by omega), ← e2]
  exact seat_lt g.pos
section
variable {ps : List Pl} {w s : Int} {h : Nat} {key : Int}
/-- a level at or above the evened one -/
theorem lvl_up (g : Geo ps w h) (ev : Evens ps w s h key) (am : Int) {l' : Nat} (h1 : lowK ps w s h key ≤ l') (h2 : l' < h) :
    excessAt (evS ps (fN ps w (lowK ps w s h key) key) (zN w (lowK ps w s h key)) (key, am)) w s l' + (-1) ≤ excessAt ps w s l' := by
  have hh := g.h10
  have hl := evS_len ps (fN ps w (lowK ps w s h key) key) (zN w (lowK ps w s h key)) (key, am)
  have out := fun i hi => evS_out ev.ok am (x := i) hi
  have all := evS_all ev.ok am
  obtain ⟨n1, n2⟩ := nest g h1 (by omega) key
  generalize evS ps (fN ps w (lowK ps w s h key) key) (zN w (lowK ps w s h key)) (key, am) = qs at *
  have g' : Geo qs w h := ⟨by rw [hl]; exact g.len, g.h10, g.w1, g.w2⟩
  have hk0 := seat_part g (show l' ≤ h by omega) key
  have ef := fN_eq g (show l' ≤ h by omega) key
  unfold excessAt
  rw [(parts_two (by omega) g').1, ← (parts_two (by omega) g).1]
  refine sum_cmp hk0 (fun k _ hk => ?_) ?_
  · rw [exK_eq (by omega) g.w1 g.w2, exK_eq (by omega) g.w1 g.w2, csM_same hl out (k_apart (by rw [← ef]; exact n1) (by rw [← ef]; exact n2) hk)]
    exact Int.le_refl _
  · rw [exK_eq (by omega) g.w1 g.w2, exK_eq (by omega) g.w1 g.w2, ← ef]
    have := csM_over hl out n1 n2
    omega
/-- a level below it -/
theorem lvl_down (g : Geo ps w h) (hs : 0 ≤ s) (ev : Evens ps w s h key) (am : Int) {l' : Nat} (h1 : l' < lowK ps w s h key) :
    excessAt (evS ps (fN ps w (lowK ps w s h key) key) (zN w (lowK ps w s h key)) (key, am)) w s l' + (if l' + 1 = lowK ps w s h key then s * 2 ^ l' else 0) ≤ excessAt ps w s l' := by
  have hh := g.h10
  have lh := ev.lh
  have hl := evS_len ps (fN ps w (lowK ps w s h key) key) (zN w (lowK ps w s h key)) (key, am)
  have out := fun i hi => evS_out ev.ok am (x := i) hi
  have calm := fun k (hk : k * zN w l' + zN w l' ≤ zN w (lowK ps w s h key)) => evS_calm g hs ev am h1 hk
  have ahead := fun (e : l' + 1 = lowK ps w s h key) => ev_ahead ev e.symm
  obtain ⟨n1, n2⟩ := nest g (show l' ≤ lowK ps w s h key by omega) lh key
  have el := fN_eq g lh key
  have ez := zN_split (h := h) (w := w) (show l' ≤ lowK ps w s h key by omega) (by omega) g.w1 g.w2
  generalize evS ps (fN ps w (lowK ps w s h key) key) (zN w (lowK ps w s h key)) (key, am) = qs at *
  have g' : Geo qs w h := ⟨by rw [hl]; exact g.len, g.h10, g.w1, g.w2⟩
  have hk0 := seat_part g (show l' ≤ h by omega) key
  have ef := fN_eq g (show l' ≤ h by omega) key
  -- each part
  have inside : ∀ k, fN ps w (lowK ps w s h key) key ≤ k * zN w l' → k * zN w l' + zN w l' ≤ fN ps w (lowK ps w s h key) key + zN w (lowK ps w s h key) → ((csM qs (k * zN w l') (zN w l')).length : Int) ≤ calmI w s l' := by
    intro k k1 k2
    obtain ⟨d, hd⟩ : ∃ d, k * zN w l' = fN ps w (lowK ps w s h key) key + d * zN w l' := by
      refine ⟨k - seatN ps key ps.length / zN w (lowK ps w s h key) * 2 ^ (lowK ps w s h key - l'), ?_⟩
      have eF : fN ps w (lowK ps w s h key) key = seatN ps key ps.length / zN w (lowK ps w s h key) * 2 ^ (lowK ps w s h key - l') * zN w l' := by
        rw [Nat.mul_assoc, ← ez]; exact el
      rw [Nat.sub_mul, ← eF]
      omega
    rw [hd]
    exact calm d (by omega)
  have part : ∀ k, exK qs w s l' k ≤ exK ps w s l' k := by
    intro k
    rw [exK_eq (by omega) g.w1 g.w2, exK_eq (by omega) g.w1 g.w2]
    by_cases hin : fN ps w (lowK ps w s h key) key ≤ k * zN w l' ∧ k * zN w l' + zN w l' ≤ fN ps w (lowK ps w s h key) key + zN w (lowK ps w s h key)
    · have := inside k hin.1 hin.2
      omega
    · have : k * zN w l' + zN w l' ≤ fN ps w (lowK ps w s h key) key ∨ fN ps w (lowK ps w s h key) key + zN w (lowK ps w s h key) ≤ k * zN w l' := by
        have eF : fN ps w (lowK ps w s h key) key = seatN ps key ps.length / zN w (lowK ps w s h key) * 2 ^ (lowK ps w s h key - l') * zN w l' := by
          rw [Nat.mul_assoc, ← ez]; exact el
        have eG : fN ps w (lowK ps w s h key) key + zN w (lowK ps w s h key) = (seatN ps key ps.length / zN w (lowK ps w s h key) * 2 ^ (lowK ps w s h key - l') + 2 ^ (lowK ps w s h key - l')) * zN w l' := by
          rw [Nat.add_mul, ← eF, ← ez]
        rw [eG] at hin ⊢
        rw [eF] at hin ⊢
        generalize seatN ps key ps.length / zN w (lowK ps w s h key) * 2 ^ (lowK ps w s h key - l') = A at *
        generalize 2 ^ (lowK ps w s h key - l') = B at *
        have ek : k * zN w l' + zN w l' = (k + 1) * zN w l' := by rw [Nat.add_mul, Nat.one_mul]
        rw [ek] at hin ⊢
        rcases Nat.lt_or_ge k A with c1 | c1
        · exact .inl (Nat.mul_le_mul_right _ c1)
        · rcases Nat.lt_or_ge k (A + B) with c2 | c2
          · exact absurd ⟨Nat.mul_le_mul_right _ c1, Nat.mul_le_mul_right _ c2⟩ hin
          · exact .inr (Nat.mul_le_mul_right _ c2)
      rw [csM_same hl out this]
      exact Int.le_refl _
  unfold excessAt
  rw [(parts_two (by omega) g').1, ← (parts_two (by omega) g).1]
  refine sum_cmp hk0 (fun k _ _ => part k) ?_
  split
  · rename_i e
    have a := ahead e
    have b := inside (seatN ps key ps.length / zN w l') (by rw [← ef]; exact n1) (by rw [← ef]; exact n2)
    rw [exK_eq (by omega) g.w1 g.w2, exK_eq (by omega) g.w1 g.w2]
    rw [← ef] at b ⊢
    omega
  · have := part (seatN ps key ps.length / zN w l')
    omega
def bonus (s : Int) (l : Nat) : Int := if l = 0 then 0 else s * 2 ^ (l - 1)
theorem sum_neg : ∀ n : Nat, ((List.range n).map fun _ => (-1 : Int)).sum = -(n : Int)
  | 0 => by simp
  | n + 1 => by rw [List.range_succ, List.map_append, List.sum_append, sum_neg n]; simp; omega
theorem coins (g : Geo ps w h) (hs : 0 ≤ s) (ev : Evens ps w s h key) (am : Int) :
    excessI (evS ps (fN ps w (lowK ps w s h key) key) (zN w (lowK ps w s h key)) (key, am)) w s h + bonus s (lowK ps w s h key) ≤ excessI ps w s h + h := by
  have lh := ev.lh
  have up := fun l' h1 h2 => lvl_up g ev am (l' := l') h1 h2
  have down := fun l' h1 => lvl_down g hs ev am (l' := l') h1
  generalize evS ps (fN ps w (lowK ps w s h key) key) (zN w (lowK ps w s h key)) (key, am) = qs at *
  generalize lowK ps w s h key = l at *
  let C : Nat → Int := fun l' => if l' < l then (if l' + 1 = l then s * 2 ^ l' else 0) else -1
  have h1 : ((List.range h).map fun k => excessAt qs w s k + C k).sum ≤ ((List.range h).map (excessAt ps w s)).sum := by
    refine sum_le fun k hk => ?_
    show excessAt qs w s k + (if k < l then (if k + 1 = l then s * 2 ^ k else 0) else -1) ≤ _
    split
    · exact down k (by omega)
    · exact up k (by omega) hk
  rw [sum_add] at h1
  have hC : ∀ k, (-1 : Int) ≤ C k := by
    intro k
    have hp := pow_posI k
    have : 0 ≤ s * 2 ^ k := Int.mul_nonneg hs (by omega)
    show -1 ≤ (if k < l then (if k + 1 = l then s * 2 ^ k else 0) else -1)
    split
    · split <;> omega
    · omega
  have h2 : -(h : Int) + bonus s l ≤ ((List.range h).map C).sum := by
    rw [← sum_neg h]
    unfold bonus
    split
    · have := sum_le (n := h) (F := fun _ => -1) (G := C) fun k _ => hC k
      omega
    · rename_i hl0
      refine sum_cmp (F := fun _ => -1) (G := C) (k0 := l - 1) (by omega) (fun k _ _ => hC k) ?_
      show -1 + s * 2 ^ (l - 1) ≤ (if l - 1 < l then (if l - 1 + 1 = l then s * 2 ^ (l - 1) else 0) else -1)
      rw [if_pos (by omega), if_pos (by omega)]
      omega
  unfold excessI
  omega
theorem movedN_le (g : Geo ps w h) (ev : Evens ps w s h key) (am : Int) :
    movedN ps (evS ps (fN ps w (lowK ps w s h key) key) (zN w (lowK ps w s h key)) (key, am)) ≤ (csM ps (fN ps w (lowK ps w s h key) key) (zN w (lowK ps w s h key))).length := by
  have out := fun i hi => evS_out ev.ok am (x := i) hi
  rw [csM_count]
  unfold movedN fullN
  rw [List.filter_filter, ← List.countP_eq_length_filter]
  refine List.countP_mono_left fun i _ hi => ?_
  rw [Bool.and_eq_true] at hi ⊢
  refine ⟨hi.2, ?_⟩
  have h1 := hi.1
  simp at h1 ⊢
  refine Classical.byContradiction fun hc => h1 ?_
  exact out i (by omega)
theorem moved_things (g : Geo ps w h) (ev : Evens ps w s h key) (am : Int) :
    movedN ps (evS ps (fN ps w (lowK ps w s h key) key) (zN w (lowK ps w s h key)) (key, am)) ≤ (things ps).length := by
  refine Nat.le_trans (movedN_le g ev am) ?_
  rw [← cells_things, List.length_map]
  exact List.length_filter_le _ _
/-- what a put of a new key costs -/
theorem put_paid (g : Geo ps w h) (hs : 0 ≤ s) (ev : Evens ps w s h key) (am : Int) :
    s * (movedN ps (evS ps (fN ps w (lowK ps w s h key) key) (zN w (lowK ps w s h key)) (key, am)) : Nat) + 2 * w * excessI (evS ps (fN ps w (lowK ps w s h key) key) (zN w (lowK ps w s h key)) (key, am)) w s h ≤ s * w + 2 * w * h + 2 * w * excessI ps w s h := by
  have c := coins g hs ev am
  have m := movedN_le g ev am
  have r := ev.room
  have w1 := g.w1
  generalize evS ps (fN ps w (lowK ps w s h key) key) (zN w (lowK ps w s h key)) (key, am) = qs at *
  generalize lowK ps w s h key = l at *
  generalize (csM ps (fN ps w l key) (zN w l)).length = n at *
  generalize movedN ps qs = mv at *
  have hp := pow_posI l
  have hcap : capI w s l ≤ 2 ^ l * w := cap_le hs
  have c2 : 2 * w * (excessI qs w s h + bonus s l) ≤ 2 * w * (excessI ps w s h + h) := Int.mul_le_mul_of_nonneg_left c (by omega)
  rw [Int.mul_add, Int.mul_add] at c2
  have hsw : 0 ≤ s * w := Int.mul_nonneg hs (by omega)
  have hm : s * (mv : Int) ≤ s * w + 2 * w * bonus s l := by
    have h1 : s * (mv : Int) ≤ s * (2 ^ l * w) := Int.mul_le_mul_of_nonneg_left (by omega) hs
    unfold bonus
    split
    · rename_i h0; subst h0; simp at h1 ⊢; exact h1
    · rename_i h0
      have e : s * (2 ^ l * w) = 2 * w * (s * 2 ^ (l - 1)) := by
        have : (2 : Int) ^ l = 2 * 2 ^ (l - 1) := by
          conv => lhs; rw [show l = (l - 1) + 1 by omega, Int.pow_succ, Int.mul_comm]
        rw [this]
        simp only [Int.mul_assoc, Int.mul_comm, Int.mul_left_comm]
      omega
  omega
end
theorem Gc.oneD {S0 S' : Store} {c : Cell} {n k : Nat} {d' d2 : D} (hn : S0.length = n) (hc : ClS S0) (h0 : ∀ i, i < n → S'[i]? = S0[i]?) (hk : S'[k]? = some c) (hnk : n ≤ k) (hd : ClC n c)
    (hr : ∀ ψ : List Nat, (∀ i, i < n → ψ[i]? = some i) → ψ[n]? = some k → Ren ψ d2 d') : Gc n S' d' (S0 ++ [c]) d2 := by
  obtain ⟨ψ, h1, h2, h3, h4, h5⟩ := Gc.one hn hc h0 hk hnk hd
  refine ⟨ψ, h1, h2, h3, h4, hr ψ ?_ ?_⟩
  · obtain ⟨t, rfl⟩ := h1
    intro i hi
    exact range_get hi
  · simp only [Ren] at h5
    obtain ⟨j, e1, e2⟩ := h5
    cases e2
    exact e1
/-- a pair of a new list and a number -/
theorem ret_list_int {S S' : Store} {ds : List D} {j : Nat} {a : Int} {Q : PQ} (hS : ClS S) (h0 : ∀ i, i < S.length → S'[i]? = S[i]?) (hj : S'[j]? = some (.lst ds)) (hnj : S.length ≤ j) (hd : Cls' S.length ds) (h : Q (.tup [.ref S.length, .int a]) (S ++ [.lst ds])) : RetQ S.length Q (.tup [.ref j, .int a]) S' :=
  .inr ⟨_, _, Gc.oneD (S0 := S) rfl hS h0 hj hnj hd (fun ψ _ e => by
    simp only [Ren, Rens]
    exact ⟨_, rfl, _, _, rfl, ⟨j, e, rfl⟩, _, _, rfl, rfl, rfl⟩), h⟩
/-! ### for a, b in zip(x, y) -/
def wsForZ (b : Tg) (wa wb : W) (body : WS) : WS := fun ρ S D E => wa ρ S (fun d S1 => wb ρ S1 (fun e S2 => ∃ m n xs ys, d = .ref m ∧ e = .ref n ∧ atL m xs S2 ∧ atL n ys S2 ∧ loopG (fun S => atL m xs S ∧ atL n ys S) b body (zipD xs ys) ρ S2 D E) E) E
theorem zipD_at {xs ys : List D} {i : Nat} {x y : D} (h1 : xs[i]? = some x) (h2 : ys[i]? = some y) : (zipD xs ys)[i]? = some (.tup [x, y]) := by
  unfold zipD
  have h : (xs.zip ys)[i]? = some (x, y) := List.getElem?_zip_eq_some.mpr ⟨h1, h2⟩
  rw [List.getElem?_map, h]; rfl
theorem zipD_length (xs ys : List D) : (zipD xs ys).length = min xs.length ys.length := by unfold zipD; simp
theorem tsA_tup {X : Cx} {WW : WX} {φ : List Addr} {ρ : DEnv} {S : Store} {w : WS} {D : Ends} {σ : L2.St} {H : Hp} {T : Addr} {vs : List V} (hT : H T = none) (q : tsA X.K X.mg WW φ ρ S w D σ H) : Ext φ H φ (upd H T (.tup vs)) ∧ tsA X.K X.mg WW φ ρ S w D σ (upd H T (.tup vs)) := by
  have kp : ∀ c o, H c = some o → upd H T (.tup vs) c = some o := fun c o e => by
    rw [upd_ne (fun h => by rw [h, hT] at e; cases e)]; exact e
  have xT : Ext φ H φ (upd H T (.tup vs)) := ⟨⟨[], by simp⟩, fun b o e _ => kp b o e, fun b o e _ => kp b o e, fun b hb => .inl hb⟩
  obtain ⟨rs, re, D', E', hw, hn, hr, hx⟩ := q
  refine ⟨xT, ⟨rs.len, rs.nd, fun n c a e1 e2 => (rs.cell n c a e1 e2).mono xT ?_⟩, re.mono xT, D', E', hw, fun ρ2 S2 a σ2 φ2 H2 x => hn ρ2 S2 a σ2 φ2 H2 (xT.trans x), fun d S2 a v φ2 H2 x => hr d S2 a v φ2 H2 (xT.trans x), fun c ρ3 S3 a u φ3 H3 σ3 x => hx c ρ3 S3 a u φ3 H3 σ3 (xT.trans x)⟩
  have hm := rs.mut (List.mem_of_getElem? e2)
  cases eo : H a with
  | none => rw [eo] at hm; exact hm.elim
  | some o => exact kp a o eo
section
variable {X : Cx} {WW : WX} {e a : Expr} {wa wb : W} {u : WS} {body : List Stmt} {pos : Pos}
theorem ss_forZ {b : Tg} {g : TG} {elts : List Expr} {kk : Nat} {tpos p p2 : Pos} (hp : PassesOwn (model X.prog X.w) X.A X.env X.xe) (hc : X.calm = true) (hg : SG X (.Tuple elts kk tpos) b g) (hgl : Gl X "zip") (hm : X.mg "zip" = none) (he : PE X e (tm X.K X.mg WW wa)) (ha : PE X a (tm X.K X.mg WW wb)) (hb : PSs X body (tsm X.K X.mg WW u))
    (hst3 : starEach [e, a] X.env = (false, eval e X.env) :: starEach [a] X.env := by rfl) (hst4 : starEach [a] X.env = (false, eval a X.env) :: starEach [] X.env := by rfl) (hpl : (backTo p2 (starEach [a] X.env)).any (·.1) = false := by rfl)
    (hs : ∀ x, foldedSetIterable (.Call (.Name "zip" p) [e, a] [] p2) X.env x = pure x := by intro _; rfl) :
    PS X (.For (.Tuple elts kk tpos) (.Call (.Name "zip" p) [e, a] [] p2) body [] pos) (tsm X.K X.mg WW (wsForZ b wa wb u)) := by
  refine PS.conv (ps_for hp hc (pi_zip hgl hm (pa_cons he (pa_cons ha pa_nil hst4) hst3) hst3 hpl) hg.pg hb hs) fun D σ H q => ?_
  refine ts_ex0 (k := fun d => fun ρ S1 D E => wb ρ S1 (fun e S2 => ∃ m n xs ys, d = .ref m ∧ e = .ref n ∧ atL m xs S2 ∧ atL n ys S2 ∧ loopG (fun S => atL m xs S ∧ atL n ys S) b u (zipD xs ys) ρ S2 D E) E) q fun d v φ1 ρ S1 H1 rd q1 => ?_
  refine tsA.ex (k := fun e => fun ρ S2 D E => ∃ m n xs ys, d = .ref m ∧ e = .ref n ∧ atL m xs S2 ∧ atL n ys S2 ∧ loopG (fun S => atL m xs S ∧ atL n ys S) b u (zipD xs ys) ρ S2 D E) q1 fun d2 v2 φ2 S2 H2 e2 rd2 ⟨rs, re, D', E', ⟨m, n, xs, ys, x1, x2, hm1, hm2, hw⟩, hn, hr, hx⟩ => ?_
  subst x1 x2
  have rd' := rd.mono e2
  obtain ⟨a1, v1, rfl, ha1, hH1, r1, z1⟩ := rs.lst hm1 rd'
  obtain ⟨a2, vs2, rfl, ha2, hH2, r2, z2⟩ := rs.lst hm2 rd2
  refine ⟨a1, a2, v1, vs2, rfl, SqL.of hH1, SqL.of hH2, ?_⟩
  refine ⟨fun i k σ' H' => k = (zipD xs ys).length - i ∧ ∃ φ' ρ' S', Ext φ2 H2 φ' H' ∧ tsA X.K X.mg WW φ' ρ' S' (loopG (fun S => atL m xs S ∧ atL n ys S) b u ((zipD xs ys).drop i)) D σ' H', ⟨_, rfl, φ2, _, S2, Ext.refl, rs, re, D', E', by simpa using hw, hn, hr, hx⟩, ?_⟩
  rintro i k σ' H' ⟨rfl, φ', ρ', S', e', q'⟩
  obtain ⟨rs', hs1, hs2⟩ := loop_st q'
  obtain ⟨b1, w1, q1, hb1, hJ1, t1, _⟩ := rs'.lst hs1 (rd'.mono e')
  obtain ⟨b2, w2, q2, hb2, hJ2, t2, _⟩ := rs'.lst hs2 (rd2.mono e')
  cases q1
  cases q2
  have hzl := zipD_length xs ys
  by_cases hi : i < (zipD xs ys).length
  · have hd1 : xs[i]? = some xs[i] := List.getElem?_eq_getElem (by omega)
    have hd2 : ys[i]? = some ys[i] := List.getElem?_eq_getElem (by omega)
    obtain ⟨y1, hy1, ry1⟩ := t1.get hd1
    obtain ⟨y2, hy2, ry2⟩ := t2.get hd2
    refine .inr ⟨⟨w1, w2, y1, y2, SqL.of hJ1, SqL.of hJ2, hy1, hy2⟩, fun σ2 H3 => ∃ φ2' ρ2 S2', Ext φ2 H2 φ2' H3 ∧ tsA X.K X.mg WW φ2' ρ2 S2' (loopG (fun S => atL m xs S ∧ atL n ys S) b u ((zipD xs ys).drop (i + 1))) D σ2 H3, fun σ2 H3 ⟨φ3, ρ2, S3, e3, q3⟩ => ⟨(zipD xs ys).length - (i + 1), by omega, rfl, φ3, ρ2, S3, e3, q3⟩, fun x H3 hx3 => ?_⟩
    obtain ⟨T, x', y', rfl, hT, rfl, f1, f2⟩ := hx3
    have ex1 : x' = y1 := Option.some.inj ((f1 _ (SqL.of hJ1)).symm.trans hy1)
    have ex2 : y' = y2 := Option.some.inj ((f2 _ (SqL.of hJ2)).symm.trans hy2)
    subst ex1 ex2
    rw [drop_cons (zipD_at hd1 hd2)] at q'
    obtain ⟨xT, q3⟩ := tsA_tup (vs := [x', y']) hT q'
    refine loop_at (K := X.K) (mg := X.mg) hg q3 (y := .ref T) ?_ fun σ2 H3 φ3 ρ2 S3 e3 q4 => ⟨φ3, ρ2, S3, (e'.trans xT).trans e3, q4⟩
    simp only [RD]
    exact ⟨T, _, rfl, upd_same, RDs.cons (ry1.mono xT) (RDs.cons (ry2.mono xT) RDs.nil)⟩
  · refine .inl ⟨⟨w1, w2, SqL.of hJ1, SqL.of hJ2, by rw [← t1.length, ← t2.length]; omega⟩, ?_⟩
    rw [List.drop_of_length_le (by omega)] at q'
    exact loop_end q'
end
@[simp] theorem e_forZ {b : Tg} {wa wb : W} {body : WS} {ρ : DEnv} {S : Store} {DD : DEnds} {E : PX} : wsForZ b wa wb body ρ S DD E = wa ρ S (fun d S1 => wb ρ S1 (fun e S2 => ∃ m n xs ys, d = .ref m ∧ e = .ref n ∧ atL m xs S2 ∧ atL n ys S2 ∧ loopG (fun S => atL m xs S ∧ atL n ys S) b body (zipD xs ys) ρ S2 DD E) E) E := rfl
/-! ### a disk's shelf that counts; growing; puts and takes on disks -/
def Dk.ar (d : Dk) (x : Int) : List Pl := if x = 0 then d.a else d.b
def shOn (d : Dk) (w wh : Int) (h : Nat) : List Pl := (d.ar wh).take (zN w h)
def tagW (x : Int) (v : Wr) : DW := (x, v.1, v.2)
def growV (d : Dk) (w wh : Int) (h : Nat) : List Wr :=
  ((fullN (d.ar (1 - wh))).map fun p : Nat => ((p : Int), (none : Pl))) ++ ((tgs ((things (shOn d w wh h)).length : Nat) (szI w (h + 1))).zip (things (shOn d w wh h))).map fun x => (x.1, some x.2)
def growW (d : Dk) (w wh : Int) (h : Nat) : List DW := (growV d w wh h).map (tagW (1 - wh)) ++ [(2, 0, some (1 - wh, (h : Int) + 1))]
def grows (t w s : Int) (d : Dk) (wh : Int) (h : Nat) (key : Int) : Bool := decide ((h : Int) < t) && (decide (placeN (shOn d w wh h) key = none) && decide (capI w s h ≤ (things (shOn d w wh h)).length))
def putDk (t w s : Int) (d : Dk) (wh : Int) (h : Nat) (key am : Int) : Option (List DW) :=
  if grows t w s d wh h key = true then (putW (shOn (d.puts (growW d w wh h)) w (1 - wh) (h + 1)) w s (h + 1) key am).map fun v => growW d w wh h ++ v.map (tagW (1 - wh))
  else (putW (shOn d w wh h) w s h key am).map fun v => v.map (tagW wh)
structure DkOn (d : Dk) (t w s wh : Int) (h : Nat) : Prop where
  c : d.c = [some (wh, (h : Int))]
  wh01 : wh = 0 ∨ wh = 1
  ht : (h : Int) ≤ t
  good : Good t w s
  la : (d.a.length : Int) = szI w t.toNat
  lb : (d.b.length : Int) = szI w t.toNat
  ris : Rises (things (shOn d w wh h))
def sp_grow_writes : SPf
  | [.tup [.int t, .int w, .int s], .ref n], S, Q, _ => ∃ d wh h, DkAt S n d ∧ DkOn d t w s wh h ∧ (h : Int) < t ∧ Q (.ref S.length) (S ++ [dwp (growW d w wh h)])
  | _, _, _, _ => False
def sp_disk_put : SPf
  | [.tup [.int t, .int w, .int s], .ref n, .int key, .int am], S, Q, E => ∃ d wh h, DkAt S n d ∧ DkOn d t w s wh h ∧ match putDk t w s d wh h key am with
    | some ws => Q (.ref S.length) (S ++ [dwp ws])
    | none => E "Full" S
  | _, _, _, _ => False
def sp_disk_take : SPf
  | [.tup [.int t, .int w, .int s], .ref n, .int key], S, Q, E => ∃ d wh h, DkAt S n d ∧ DkOn d t w s wh h ∧ match placeN (shOn d w wh h) key with
    | some p => Q (.ref S.length) (S ++ [dwp [(wh, (p : Int), none)]])
    | none => E "NoKey" S
  | _, _, _, _ => False
theorem len_grow_writes : ∀ ds S Q E, sp_grow_writes ds S Q E → ds.length = 2 := by
  intro ds S Q E h; unfold sp_grow_writes at h; split at h <;> first | rfl | exact h.elim
theorem len_disk_put : ∀ ds S Q E, sp_disk_put ds S Q E → ds.length = 4 := by
  intro ds S Q E h; unfold sp_disk_put at h; split at h <;> first | rfl | exact h.elim
theorem len_disk_take : ∀ ds S Q E, sp_disk_take ds S Q E → ds.length = 3 := by
  intro ds S Q E h; unfold sp_disk_take at h; split at h <;> first | rfl | exact h.elim
abbrev n_grow_writes : List Str := ["bounds", "disk", "which", "height", "other", "writes", "place", "rows", "aims", "aim", "thing"]
def w_grow_writes_r1 : WS :=
  wsSeq (wsExpr (wM "list" mAppend (wVar 5) [wTup [ret (.int 2), ret (.int 0), wTup [wVar 4, wOp pAdd (wVar 3) (ret (.int 1))]]])) (wsRet (wVar 5))
def w_grow_writes : WS :=
  wsSeq (wsAsg (tT [2, 3]) (wOp pIx (wOp pIx (wVar 1) (ret (.int 2))) (ret (.int 0)))) (wsSeq (wsSet 4 (wOp pSub (ret (.int 1)) (wVar 2))) (wsSeq (wsSet 5 (wCompR1 [6] (tN 6) (wB bLen [wOp pIx (wVar 1) (wVar 4)]) (wOp pNe (wOp pIx (wOp pIx (wVar 1) (wVar 4)) (wVar 6)) (wTup [])) (wTup [wVar 4, wVar 6, wTup []]))) (wsSeq (wsSet 7 (wCall sp_rows_of [wCall sp_shelf_on [wVar 0, wVar 1] []] [])) (wsSeq (wsSet 8 (wCall sp_targets [wB bLen [wVar 7], wCall sp_places_of [wVar 0, wOp pAdd (wVar 3) (ret (.int 1))] []] [])) (wsSeq (wsForZ (tT [9, 10]) (wVar 8) (wVar 7) (wsExpr (wM "list" mAppend (wVar 5) [wTup [wVar 4, wVar 9, wVar 10]]))) (w_grow_writes_r1))))))

abbrev n_disk_put : List Str := ["bounds", "disk", "key", "amount", "height", "shelf", "writes", "grown", "which", "place", "thing"]
def w_disk_put_r1 : WS :=
  wsSeq (wsAsg (tT [8, 4]) (wOp pIx (wOp pIx (wVar 7) (ret (.int 2))) (ret (.int 0)))) (wsSeq (wsFor (tT [9, 10]) (wCall sp_put_writes [wVar 0, wVar 4, wCall sp_shelf_on [wVar 0, wVar 7] [], wVar 2, wVar 3] []) (wsExpr (wM "list" mAppend (wVar 6) [wTup [wVar 8, wVar 9, wVar 10]]))) (wsRet (wVar 6)))
def w_disk_put : WS :=
  wsSeq (wsSet 4 (wOp pIx (wOp pIx (wOp pIx (wVar 1) (ret (.int 2))) (ret (.int 0))) (ret (.int 1)))) (wsSeq (wsSet 5 (wCall sp_shelf_on [wVar 0, wVar 1] [])) (wsSeq (wsSet 6 (wLst [])) (wsSeq (wsSet 7 (wVar 1)) (wsSeq (wsIf (wAnd (wOp pLt (wVar 4) (wOp pIx (wVar 0) (ret (.int 0)))) (wAnd (wOp1 pIsN (wCall sp_place_of [wVar 5, wVar 2] [])) (wOp pGe (wCall sp_held [wVar 5, ret (.int 0), wB bLen [wVar 5]] []) (wCall sp_cap_of [wVar 0, wVar 4] [])))) (wsSeq (wsSet 6 (wCall sp_grow_writes [wVar 0, wVar 1] [])) (wsSet 7 (wCall sp_written [wVar 1, wVar 6] []))) (wsNil)) (w_disk_put_r1)))))

abbrev n_disk_take : List Str := ["bounds", "disk", "key", "which", "place", "thing"]
def w_disk_take : WS :=
  wsSeq (wsSet 3 (wOp pIx (wOp pIx (wOp pIx (wVar 1) (ret (.int 2))) (ret (.int 0))) (ret (.int 0)))) (wsRet (wComp [4, 5] (tT [4, 5]) (wCall sp_take_writes [wCall sp_shelf_on [wVar 0, wVar 1] [], wVar 2] []) (wYes) (wTup [wVar 3, wVar 4, wVar 5])))

theorem DkOn.len {d : Dk} {t w s wh : Int} {h : Nat} (o : DkOn d t w s wh h) (x : Int) : ((d.ar x).length : Int) = szI w t.toNat := by
  unfold Dk.ar; split
  · exact o.la
  · exact o.lb
theorem DkOn.zle {d : Dk} {t w s wh : Int} {h : Nat} (o : DkOn d t w s wh h) {k : Nat} (hk : (k : Int) ≤ t) : 1 ≤ szI w k ∧ szI w k ≤ 320 ∧ szI w k ≤ szI w t.toNat ∧ szI w t.toNat ≤ 320 := by
  obtain ⟨g1, g2, g3, g4, g5, g6⟩ := o.good
  have a := szI_pos (w := w) (l := k) (by omega) g3 (by omega)
  have b := szI_pos (w := w) (l := t.toNat - k) (by omega) g3 (by omega)
  have e := szI_split (w := w) (l := k) (h := t.toNat) (by omega)
  have p := pow10 (t.toNat - k) (by omega)
  have m1 : 1 * szI w k ≤ 2 ^ (t.toNat - k) * szI w k := Int.mul_le_mul_of_nonneg_right p.1 (by omega)
  have p4 : (2 : Int) ^ t.toNat ≤ 2 ^ 4 := by exact_mod_cast Nat.pow_le_pow_right (by decide) (show t.toNat ≤ 4 by omega)
  have m2 : szI w t.toNat ≤ 2 ^ 4 * 20 := by unfold szI; exact Int.mul_le_mul p4 g4 (by omega) (by decide)
  omega
theorem DkOn.shLen {d : Dk} {t w s wh : Int} {h : Nat} (o : DkOn d t w s wh h) : ((shOn d w wh h).length : Int) = szI w h := by
  have := o.zle o.ht
  have hl := o.len wh
  have e : ((zN w h : Nat) : Int) = szI w h := by unfold zN; omega
  unfold shOn
  rw [List.length_take]; omega
theorem DkOn.geo {d : Dk} {t w s wh : Int} {h : Nat} (o : DkOn d t w s wh h) : Geo (shOn d w wh h) w h := by
  obtain ⟨g1, g2, g3, g4, g5, g6⟩ := o.good
  have := o.ht
  exact ⟨o.shLen, by omega, g3, by omega⟩
theorem zN_eq (w : Int) (h : Nat) : (2 ^ h * w).toNat = zN w h := rfl
theorem sh_eq {d : Dk} {w wh : Int} {h : Nat} : (if wh = 0 then d.a else d.b).take (2 ^ h * w).toNat = shOn d w wh h := rfl
/-- the parts of a disk, by number -/
theorem dk_ix {S : Store} {d : Dk} {i j l : Nat} {x : Int} (hi : S[i]? = some (shp d.a)) (hj : S[j]? = some (shp d.b)) (hx : x = 0 ∨ x = 1) : ∃ k, atI [D.ref i, .ref j, .ref l] x = some (.ref k) ∧ S[k]? = some (shp (d.ar x)) := by
  rcases hx with rfl | rfl
  · exact ⟨i, rfl, hi⟩
  · exact ⟨j, rfl, hj⟩
theorem cls_dw (n : Nat) : ∀ ws : List DW, Cls' n (ws.map dwE)
  | [] => by simp [Cls']
  | w :: ws => by
    have h1 := cls_map ePl n [w.2.2]
    simp only [List.map_cons, List.map_nil, Cls', and_true] at h1
    simp only [List.map_cons, Cls']
    exact ⟨by simp only [dwE, Cl, Cls']; exact ⟨trivial, trivial, h1, trivial⟩, cls_dw n ws⟩
theorem ob_grow_writes : Ob n_grow_writes sp_grow_writes w_grow_writes := by
  intro ds S Q E hS hd h
  unfold sp_grow_writes at h
  split at h
  · rename_i t w s n
    obtain ⟨d, wh, h, ⟨i, j, l, h1, ha, hb, hc⟩, o, hlt, hq⟩ := h
    obtain ⟨g1, g2, g3, g4, g5, g6⟩ := o.good
    have hwh := o.wh01
    have hoc := o.c
    have z1 := o.zle o.ht
    have z2 := o.zle (k := h + 1) (by omega)
    have hlo := o.len (1 - wh)
    have hth := things_le (shOn d w wh h)
    have hsl := o.shLen
    obtain ⟨k, hk1, hk2⟩ := dk_ix (l := l) ha hb (x := 1 - wh) (by omega)
    rw [hoc] at hc
    simp [w_grow_writes, startD, h1, hc, hoc, ix_three, setAll, jx0, jx00]
    refine ⟨_, hk1, ?_⟩
    generalize hO : d.ar (1 - wh) = O at *
    simp [hk2]
    refine ⟨by omega, ?_⟩
    refine comp_range (fun i => if fullAt O i = true then some (.tup [.int (1 - wh), .int (i : Nat), .tup []]) else none) (fun x hx N hN => ?_) ?_
    · have e := pl_at (ps := O) (i := x) (by simpa using hx)
      have hx2 : x < O.length := by simpa using hx
      simp [h1, hk1, hk2, e]
      cases e2 : O[x] with
      | none => simpa [fullAt, List.getElem?_eq_getElem hx2, e2] using hN
      | some u => simpa [fullAt, List.getElem?_eq_getElem hx2, e2] using hN
    · have eL : (List.range O.length).filterMap (fun i => if fullAt O i = true then some (D.tup [D.int (1 - wh), D.int (i : Nat), D.tup []]) else none) = (((fullN O).map fun p : Nat => ((p : Int), (none : Pl))).map (tagW (1 - wh))).map dwE := by
        unfold fullN
        rw [List.map_map, List.map_map]
        induction (List.range O.length) with
        | nil => rfl
        | cons y ys ih =>
          rw [List.filterMap_cons, List.filter_cons]
          by_cases hy : fullAt O y = true
          · rw [if_pos hy, if_pos hy, List.map_cons, ih]; rfl
          · rw [if_neg hy, if_neg hy, ih]
      rw [eL]
      generalize hcl : ((fullN O).map fun p : Nat => ((p : Int), (none : Pl))) = cl at *
      have dk : DkAt S n d := ⟨i, j, l, h1, ha, hb, by rw [hoc]; exact hc⟩
      refine ⟨d, wh, h, dk.app, hoc, hwh, ⟨by omega, by omega, g3⟩, ?_⟩
      rw [show ((h : Int)).toNat = h by omega, sh_eq]
      refine ⟨shOn d w wh h, by rw [List.append_assoc]; simp, by omega, fun qs hm => ?_⟩
      rw [mend_none (rises_noEqD o.ris) hm]
      generalize hT : things (shOn d w wh h) = T at *
      simp [sp_places_of, sp_targets]
      refine ⟨by omega, by omega, _, by rw [atL]; simp; rfl, _, by rw [atL]; simp; rfl, ?_⟩
      have hsz : szI w (h + 1) = 2 ^ (h + 1) * w := rfl
      rw [← hsz]
      generalize hA : tgs (T.length : Nat) (szI w (h + 1)) = A at *
      have hAl : A.length = T.length := by rw [← hA, tgs_length]; simp
      have hzl : (zipD (A.map D.int) (T.map eTh.enc)).length = T.length := by rw [zipD_length]; simp [hAl]
      let V : Nat → List Wr := fun i => cl ++ ((A.zip T).take i).map fun x => (x.1, some x.2)
      refine loop_inv (fun i ρ S' => S' = S ++ [dwp ((V i).map (tagW (1 - wh))), shp (shOn d w wh h), thp T, .lst (A.map .int)] ∧ ∃ a b, ρ = [some (.tup [.int t, .int w, .int s]), some (.ref n), some (.int wh), some (.int h), some (.int (1 - wh)), some (.ref S.length), none, some (.ref (S.length + 2)), some (.ref (S.length + 3)), a, b]) _ 0 _ _ ⟨by simp [V], none, none, rfl⟩ ?_ ?_ ?_
      · rintro i ρ S' ⟨rfl, _⟩
        constructor
        · rw [atL]; simp
        · rw [atL]; simp
      · rintro i x ρ S' N hx ⟨rfl, a, b, rfl⟩ hN
        rw [Nat.zero_add] at hN ⊢
        have hi : i < T.length := by rw [← hzl]; exact (List.getElem?_eq_some_iff.mp hx).1
        have hA1 : A[i]? = some A[i] := List.getElem?_eq_getElem (by omega)
        have hT1 : T[i]? = some T[i] := List.getElem?_eq_getElem hi
        rw [zipD_at (x := .int A[i]) (y := eTh.enc T[i]) (by rw [List.getElem?_map, hA1]; rfl) (by rw [List.getElem?_map, hT1]; rfl)] at hx
        cases hx
        have hz1 : (A.zip T)[i]? = some (A[i], T[i]) := List.getElem?_zip_eq_some.mpr ⟨hA1, hT1⟩
        have hV : V (i + 1) = V i ++ [(A[i], some T[i])] := by
          show cl ++ _ = (cl ++ _) ++ _
          rw [List.take_add_one, hz1, List.map_append, List.append_assoc]; rfl
        have fin := hN [some (.tup [.int t, .int w, .int s]), some (.ref n), some (.int wh), some (.int h), some (.int (1 - wh)), some (.ref S.length), none, some (.ref (S.length + 2)), some (.ref (S.length + 3)), some (.int A[i]), some (eTh.enc T[i])] _ ⟨rfl, _, _, rfl⟩
        rw [hV] at fin
        have hVl : (V i).length ≤ cl.length + T.length := by
          show (cl ++ _).length ≤ _
          simp [List.length_zip]; omega
        generalize V i = v at *
        have hcll : cl.length ≤ O.length := by rw [← hcl, List.length_map]; unfold fullN; exact Nat.le_trans (List.length_filter_le _ _) (by simp)
        have hsz4 : (2000 : Nat) ≤ sizeLine := by decide
        simp [setAll]
        refine ⟨isT_at, by omega, ?_⟩
        have e : v.map (dwE ∘ tagW (1 - wh)) ++ [D.tup [.int (1 - wh), .int A[i], .tup [.int T[i].1, .int T[i].2]]] = ((v ++ [(A[i], some T[i])]).map (tagW (1 - wh))).map dwE := by
          rw [List.map_append, List.map_append, List.map_map]; rfl
        rw [e]
        exact fin
      · rintro ρ S' ⟨rfl, a, b, rfl⟩
        rw [Nat.zero_add, hzl]
        have hcll : cl.length ≤ O.length := by rw [← hcl, List.length_map]; unfold fullN; exact Nat.le_trans (List.length_filter_le _ _) (by simp)
        have hsz4 : (2000 : Nat) ≤ sizeLine := by decide
        have hVl : (V T.length).length ≤ cl.length + T.length := by
          show (cl ++ _).length ≤ _
          simp [List.length_zip]; omega
        have hVe : V T.length = growV d w wh h := by
          show cl ++ _ = _
          rw [List.take_of_length_le (by rw [List.length_zip]; omega)]
          unfold growV
          rw [hT, hO, hcl, ← hA]
        simp [w_grow_writes_r1]
        refine ⟨isT_at, by omega, ?_⟩
        have e : (growW d w wh h).map dwE = (V T.length).map (dwE ∘ tagW (1 - wh)) ++ [D.tup [.int 2, .int 0, .tup [.int (1 - wh), .int ((h : Int) + 1)]]] := by
          unfold growW
          rw [hVe, List.map_append, List.map_map]; rfl
        rw [← e]
        exact ret_list hS (fun x hx => by rw [List.getElem?_append_left hx]) (by simp) (Nat.le_refl _) (cls_dw _ _) hq
  · exact h.elim
theorem puts_app (d : Dk) (a b : List DW) : d.puts (a ++ b) = (d.puts a).puts b := by unfold Dk.puts; rw [List.foldl_append]
theorem puts_ar {x : Int} (hx : x = 0 ∨ x = 1) : ∀ (ws : List Wr) (d : Dk), (d.puts (ws.map (tagW x))).ar x = doneP (d.ar x) ws ∧ (d.puts (ws.map (tagW x))).ar (1 - x) = d.ar (1 - x) ∧ (d.puts (ws.map (tagW x))).c = d.c
  | [], d => ⟨rfl, rfl, rfl⟩
  | v :: ws, d => by
    obtain ⟨a, b, c⟩ := puts_ar hx ws (d.put (tagW x v))
    show ((d.put (tagW x v)).puts (ws.map (tagW x))).ar x = _ ∧ ((d.put (tagW x v)).puts (ws.map (tagW x))).ar (1 - x) = _ ∧ ((d.put (tagW x v)).puts (ws.map (tagW x))).c = _
    rw [a, b, c]
    rcases hx with rfl | rfl
    · exact ⟨rfl, rfl, rfl⟩
    · exact ⟨rfl, rfl, rfl⟩
theorem grow_c {d : Dk} {w wh : Int} {h : Nat} (hw : wh = 0 ∨ wh = 1) (hc : d.c = [some (wh, (h : Int))]) : (d.puts (growW d w wh h)).c = [some (1 - wh, (h : Int) + 1)] ∧ (d.puts (growW d w wh h)).ar (1 - wh) = doneP (d.ar (1 - wh)) (growV d w wh h) ∧ (d.puts (growW d w wh h)).ar wh = d.ar wh := by
  obtain ⟨a, b, c⟩ := puts_ar (x := 1 - wh) (by omega) (growV d w wh h) d
  unfold growW
  rw [puts_app]
  generalize d.puts ((growV d w wh h).map (tagW (1 - wh))) = e at *
  refine ⟨?_, a, ?_⟩
  · show (e.put (2, 0, some (1 - wh, (h : Int) + 1))).c = _
    unfold Dk.put
    simp [c, hc]
  · show (e.put (2, 0, some (1 - wh, (h : Int) + 1))).ar wh = _
    rw [show (1 : Int) - (1 - wh) = wh by omega] at b
    exact b
theorem okD_tag {d : Dk} {x : Int} (hx : x = 0 ∨ x = 1) {ws : List Wr} (h : OkW (d.ar x).length ws) : ∀ v ∈ ws.map (tagW x), OkD d v := by
  intro v hv
  obtain ⟨u, hu, rfl⟩ := List.mem_map.mp hv
  have := h u hu
  refine ⟨this.1, ?_⟩
  rcases hx with rfl | rfl
  · exact .inl ⟨rfl, this.2⟩
  · exact .inr (.inl ⟨rfl, this.2⟩)
theorem grow_ok {d : Dk} {t w s wh : Int} {h : Nat} (o : DkOn d t w s wh h) (hlt : (h : Int) < t) (hr : ((things (shOn d w wh h)).length : Int) ≤ szI w (h + 1)) : OkW (d.ar (1 - wh)).length (growV d w wh h) := by
  have z2 := o.zle (k := h + 1) (by omega)
  have hlo := o.len (1 - wh)
  intro v hv
  unfold growV at hv
  rcases List.mem_append.mp hv with hv | hv
  · obtain ⟨p, hp, rfl⟩ := List.mem_map.mp hv
    unfold fullN at hp
    have := List.mem_range.mp (List.mem_filter.mp hp).1
    exact ⟨by simp, by simpa using this⟩
  · obtain ⟨⟨a, b⟩, hp, rfl⟩ := List.mem_map.mp hv
    have ha := (List.of_mem_zip hp).1
    unfold tgs at ha
    obtain ⟨k, hk, rfl⟩ := List.mem_map.mp ha
    have hk2 := List.mem_range.mp hk
    have h0 := tg_nonneg (m := ((things (shOn d w wh h)).length : Nat)) (z := szI w (h + 1)) (by omega) (by omega) k
    have h1 := tg_end (m := ((things (shOn d w wh h)).length : Nat)) (z := szI w (h + 1)) (by omega) (by omega) (k := k) (by omega)
    exact ⟨h0, by show tg _ _ k < _; omega⟩
theorem dwE_tag (x : Int) (v : Wr) : dwE (tagW x v) = .tup [.int x, .int v.1, ePl.enc v.2] := rfl
theorem disk_put_rest {S T G : Store} {Q : PQ} {E : Str → Store → Prop} {t w s key am : Int} {n m q sh : Nat} {d2 : Dk} {x : Int} {h2 : Nat} {hh : D} {pre : List DW} (hS : ClS S) (eT : T = S ++ G) (dk : DkAt T m d2) (hc : d2.c = [some (x, (h2 : Int))]) (hx : x = 0 ∨ x = 1)
    (h4 : h2 ≤ 4) (g : Geo (shOn d2 w x h2) w h2) (gl : (shOn d2 w x h2).length ≤ 1000) (hq : T[q]? = some (dwp pre)) (hqn : S.length ≤ q) (hpl : pre.length ≤ 1000)
    (hput : match putW (shOn d2 w x h2) w s h2 key am with
      | some v => v.length ≤ 100000 ∧ Q (.ref S.length) (S ++ [dwp (pre ++ v.map (tagW x))])
      | none => E "Full" S) :
    w_disk_put_r1 [some (.tup [.int t, .int w, .int s]), some (.ref n), some (.int key), some (.int am), some hh, some (.ref sh), some (.ref q), some (.ref m), none, none, none] T { nx := fun x S' => RetQ S.length Q D.non S', rt := RetQ S.length Q } (fun c x S' => RetE S.length E c S') := by
  obtain ⟨i, j, l, h1, ha, hb, hcc⟩ := id dk
  have w1 := g.w1
  have hT : ∀ k, k < S.length → T[k]? = S[k]? := fun k hk => by rw [eT]; exact List.getElem?_append_left hk
  rw [hc] at hcc
  have hql : q < T.length := (List.getElem?_eq_some_iff.mp hq).1
  simp [w_disk_put_r1, h1, hcc, ix_three, setAll, jx0, jx1, jx00]
  refine ⟨d2, x, h2, dk, hc, hx, ⟨by omega, by omega, w1⟩, ?_⟩
  rw [show ((h2 : Int)).toNat = h2 by omega, sh_eq]
  refine ⟨shOn d2 w x h2, List.getElem?_concat_length, by omega, by omega, g, ?_⟩
  rw [show ((h2 : Int)).toNat = h2 by omega]
  generalize putW (shOn d2 w x h2) w s h2 key am = P at *
  cases P with
  | none =>
    show RetE S.length E "Full" _
    rw [eT, List.append_assoc]
    exact .inr ⟨S, Gc.drop rfl hS (by simp only [Cl]), hput⟩
  | some v =>
    obtain ⟨hvl, hput⟩ := hput
    have hsz : (200000 : Nat) ≤ sizeLine := by decide
    have hrl : (T ++ [shp (shOn d2 w x h2)]).length = T.length + 1 := by simp
    have hr : (T ++ [shp (shOn d2 w x h2)] ++ [wrp v])[T.length + 1]? = some (wrp v) := by rw [← hrl]; simp
    have q0 : (T ++ [shp (shOn d2 w x h2)] ++ [wrp v])[q]? = some (dwp pre) := by rw [List.append_assoc]; exact app_get hq
    have s0 : ∀ k, k < S.length → (T ++ [shp (shOn d2 w x h2)] ++ [wrp v])[k]? = S[k]? := fun k hk => by
      rw [List.append_assoc, List.getElem?_append_left (by omega)]; exact hT k hk
    show ∃ n_1, _
    refine ⟨T.length + 1, by rw [hrl], v.map eWr.enc, hr, ?_⟩
    generalize (T ++ [shp (shOn d2 w x h2)] ++ [wrp v]) = T0 at *
    refine loop_list (fun i ρ S' => S'[T.length + 1]? = some (wrp v) ∧ S'[q]? = some (dwp (pre ++ (v.take i).map (tagW x))) ∧ (∀ k, k < S.length → S'[k]? = S[k]?) ∧ ∃ a b, ρ = [some (.tup [.int t, .int w, .int s]), some (.ref n), some (.int key), some (.int am), some (.int h2), some (.ref sh), some (.ref q), some (.ref m), some (.int x), a, b]) ⟨hr, by simpa using q0, s0, none, none, rfl⟩ (fun _ _ _ h => h.1) ?_ ?_
    · rintro i y ρ S' N hy ⟨t1, t2, t3, a, b, rfl⟩ hN
      have hi : i < v.length := by simpa using (List.getElem?_eq_some_iff.mp hy).1
      rw [List.getElem?_map, List.getElem?_eq_getElem hi] at hy
      simp only [Option.map_some, Option.some.injEq] at hy
      subst hy
      have hql' : q < S'.length := (List.getElem?_eq_some_iff.mp t2).1
      have e : (pre ++ (v.take i).map (tagW x)).map dwE ++ [D.tup [.int x, .int v[i].1, ePl.enc v[i].2]] = (pre ++ (v.take (i + 1)).map (tagW x)).map dwE := by
        rw [take_next hi, List.map_append, List.map_append, List.map_append, List.map_append, List.append_assoc]; rfl
      have hln : ((pre ++ (v.take i).map (tagW x)).map dwE).length < sizeLine := by simp; omega
      generalize (pre ++ (v.take i).map (tagW x)) = pp at *
      simp [setAll, t2]
      refine ⟨isT_list t2, by simpa using hln, ?_⟩
      rw [e]
      refine hN _ _ ⟨?_, ?_, fun k hk => ?_, _, _, rfl⟩
      · rw [List.getElem?_set_ne (by omega)]; exact t1
      · exact List.getElem?_set_self hql'
      · rw [List.getElem?_set_ne (by omega)]; exact t3 k hk
    · rintro ρ S' ⟨t1, t2, t3, a, b, rfl⟩
      rw [List.take_of_length_le (by simp)] at t2
      simp
      exact ret_list hS t3 t2 hqn (cls_dw _ _) hput
theorem ob_disk_put : Ob n_disk_put sp_disk_put w_disk_put := by
  intro ds S Q E hS hd h
  unfold sp_disk_put at h
  split at h
  · rename_i t w s n key am
    obtain ⟨d, wh, h, dk, o, hq⟩ := h
    obtain ⟨i, j, l, h1, ha, hb, hc⟩ := id dk
    obtain ⟨g1, g2, g3, g4, g5, g6⟩ := o.good
    have hwh := o.wh01
    have hoc := o.c
    have hht := o.ht
    have z1 := o.zle o.ht
    have hth := things_le (shOn d w wh h)
    have hsl := o.shLen
    rw [hoc] at hc
    have hgeo := o.geo
    simp [w_disk_put, startD, h1, hc, hoc, ix_three, setAll, jx0, jx1, jx00]
    refine ⟨d, wh, h, dk, hoc, hwh, ⟨by omega, by omega, g3⟩, ?_⟩
    rw [show ((h : Int)).toNat = h by omega, sh_eq]
    have small : ∀ (p2 : List Pl) (h2 : Nat) (v : List Wr), p2.length ≤ 400 → putW p2 w s h2 key am = some v → v.length ≤ 1000 := fun p2 h2 v hl e => by
      unfold putW at e
      split at e
      · cases e; simp
      · split at e
        · cases e
          unfold evW
          rw [List.length_append, trWs_len]
          have := List.length_filter_le (fun x : Tr => decide (x.1 ≠ x.2.1)) (evT p2 (fN p2 w (lowK p2 w s h2 key) key) (zN w (lowK p2 w s h2 key)) key)
          have e2 : (evT p2 (fN p2 w (lowK p2 w s h2 key) key) (zN w (lowK p2 w s h2 key)) key).length = (cells p2).length := by
            have := congrArg List.length (evT_P (ps := p2) (f := fN p2 w (lowK p2 w s h2 key) key) (z := zN w (lowK p2 w s h2 key)) (key := key))
            simpa [trP] using this
          have e3 : (cells p2).length ≤ p2.length := by
            have := congrArg List.length (cells_things p2)
            rw [List.length_map] at this
            have := things_le p2
            omega
          simp only [List.length_cons, List.length_nil]; omega
        · cases e
    have stay : grows t w s d wh h key = false → ∀ (G : Store), w_disk_put_r1 [some (.tup [.int t, .int w, .int s]), some (.ref n), some (.int key), some (.int am), some (.int h), some (.ref S.length), some (.ref (S.length + 1)), some (.ref n), none, none, none] (S ++ (shp (shOn d w wh h) :: Cell.lst [] :: G)) { nx := fun x S' => RetQ S.length Q D.non S', rt := RetQ S.length Q } (fun c x S' => RetE S.length E c S') := by
      intro hg G
      refine disk_put_rest (pre := []) (d2 := d) (x := wh) (h2 := h) hS rfl dk.app hoc hwh (by omega) hgeo (by omega) (by simp) (by omega) (by simp) ?_
      unfold putDk at hq
      rw [hg] at hq
      simp only [Bool.false_eq_true, if_false] at hq
      have sm := small (shOn d w wh h) h
      generalize putW (shOn d w wh h) w s h key am = P at *
      cases P with
      | none => exact hq
      | some v => exact ⟨by have := sm v (by omega) rfl; omega, by simpa using hq⟩
    show if _ then _ else _
    split
    · rename_i hlt
      refine ⟨shOn d w wh h, by rw [List.append_assoc]; simp, by omega, ?_⟩
      cases hp : placeN (shOn d w wh h) key with
      | some p =>
        simp [isNon, optI]
        have := stay (by unfold grows; rw [hp]; simp) []
        simpa using this
      | none =>
        simp [isNon, optI]
        refine ⟨shOn d w wh h, by simp, ⟨by omega, by omega⟩, ?_⟩
        have e0 : (things (List.drop (Int.toNat 0) (List.take (((shOn d w wh h).length : Int)).toNat (shOn d w wh h)))).length = (things (shOn d w wh h)).length := by simp
        rw [e0]
        simp [sp_cap_of]
        refine ⟨by omega, ?_⟩
        rw [show (2 : Int) ^ h * (w - s * h) = capI w s h from rfl]
        by_cases hcap : capI w s h ≤ (things (shOn d w wh h)).length
        · refine .inr ⟨hcap, ?_⟩
          have hgr : grows t w s d wh h key = true := by unfold grows; rw [hp, decide_eq_true hlt, decide_eq_true hcap]; simp
          unfold putDk at hq
          rw [if_pos hgr] at hq
          have z2 := o.zle (k := h + 1) (by omega)
          have hmono : ((things (shOn d w wh h)).length : Int) ≤ szI w (h + 1) := by
            have := szI_next w h
            omega
          have hok := grow_ok o hlt hmono
          obtain ⟨c1, c2, c3⟩ := grow_c (w := w) hwh hoc
          have hvl : (growV d w wh h).length ≤ 700 := by
            unfold growV
            have hlo := o.len (1 - wh)
            have : (fullN (d.ar (1 - wh))).length ≤ (d.ar (1 - wh)).length := by unfold fullN; exact Nat.le_trans (List.length_filter_le _ _) (by simp)
            simp [List.length_zip]
            omega
          have hgl : (growW d w wh h).length = (growV d w wh h).length + 1 := by unfold growW; simp
          have hokD : ∀ v ∈ growW d w wh h, OkD d v := by
            intro v hv
            unfold growW at hv
            rcases List.mem_append.mp hv with hv | hv
            · exact okD_tag (by omega) hok v hv
            · have : v = (2, 0, some (1 - wh, (h : Int) + 1)) := by simpa using hv
              subst this
              exact ⟨Int.le_refl 0, .inr (.inr ⟨rfl, by rw [hoc]; simp⟩)⟩
          have la2 : ((shOn (d.puts (growW d w wh h)) w (1 - wh) (h + 1)).length : Int) = szI w (h + 1) := by
            unfold shOn
            rw [c2, List.length_take, doneP_len]
            have hlo := o.len (1 - wh)
            have : ((zN w (h + 1) : Nat) : Int) = szI w (h + 1) := by unfold zN; omega
            omega
          have g2' : Geo (shOn (d.puts (growW d w wh h)) w (1 - wh) (h + 1)) w (h + 1) := ⟨la2, by omega, g3, by omega⟩
          refine ⟨d, wh, h, dk.app, o, hlt, ?_⟩
          refine ⟨d, growW d w wh h, by rw [List.append_assoc]; exact dk.app, by simp, hokD, ?_⟩
          have sm := small (shOn (d.puts (growW d w wh h)) w (1 - wh) (h + 1)) (h + 1)
          generalize hd2 : d.puts (growW d w wh h) = d2 at *
          generalize growW d w wh h = gw at *
          refine disk_put_rest (pre := gw) (d2 := d2) (x := 1 - wh) (h2 := h + 1) (G := [shp (shOn d w wh h), Cell.lst [], dwp gw] ++ dkC (S ++ [shp (shOn d w wh h), Cell.lst []] ++ [dwp gw]).length d2) hS (by simp) ?_ (by rw [c1]; simp) (by omega) (by omega) g2' (by omega) ?_ (by simp) (by omega) ?_
          · have := dkAt_new (S := S ++ [shp (shOn d w wh h), Cell.lst []] ++ [dwp gw]) (G := []) (d := d2)
            rwa [List.append_nil] at this
          · rw [List.append_assoc, List.append_assoc]
            rw [List.getElem?_append_right (by simp)]
            simp
          · generalize putW (shOn d2 w (1 - wh) (h + 1)) w s (h + 1) key am = P at *
            cases P with
            | none => exact hq
            | some v => exact ⟨by have := sm v (by omega) rfl; omega, hq⟩
        · refine .inl ⟨by omega, ?_⟩
          have := stay (by unfold grows; rw [hp, decide_eq_false hcap]; simp) []
          simpa using this
    · rename_i hlt
      have := stay (by unfold grows; rw [decide_eq_false hlt]; rfl) []
      simpa using this
  · exact h.elim
theorem ob_disk_take : Ob n_disk_take sp_disk_take w_disk_take := by
  intro ds S Q E hS hd h
  unfold sp_disk_take at h
  split at h
  · rename_i t w s n key
    obtain ⟨d, wh, h, dk, o, hq⟩ := h
    obtain ⟨i, j, l, h1, ha, hb, hc⟩ := id dk
    obtain ⟨g1, g2, g3, g4, g5, g6⟩ := o.good
    have hwh := o.wh01
    have hoc := o.c
    have hht := o.ht
    have z1 := o.zle o.ht
    have hth := things_le (shOn d w wh h)
    have hsl := o.shLen
    rw [hoc] at hc
    simp [w_disk_take, startD, h1, hc, hoc, ix_three, setAll, jx0, jx00]
    refine ⟨d, wh, h, dk, hoc, hwh, ⟨by omega, by omega, g3⟩, ?_⟩
    rw [show ((h : Int)).toNat = h by omega, sh_eq]
    refine ⟨shOn d w wh h, by simp, by omega, ?_⟩
    cases hp : placeN (shOn d w wh h) key with
    | none =>
      rw [hp] at hq
      show RetE S.length E "NoKey" _
      exact .inr ⟨S, Gc.drop rfl hS (by simp only [Cl]), hq⟩
    | some p =>
      rw [hp] at hq
      show ∃ n_1, _
      refine ⟨S.length + 1, by simp, [D.tup [.int p, .tup []]], by rw [atL]; simp, ?_⟩
      simp [compG, atL, setAll]
      exact ret_list (ds := [D.tup [.int wh, .int p, .tup []]]) hS (fun x hx => List.getElem?_append_left hx) (by rw [List.getElem?_append_right (by omega)]; simp) (by omega) (cls_dw S.length [(wh, (p : Int), none)]) hq
  · exact h.elim
@[simp] theorem is_Full_Full : isub (Str.ofString "Full") (Str.ofString "Full") = true := by decide +kernel
@[simp] theorem is_Full_NoKey : isub (Str.ofString "Full") (Str.ofString "NoKey") = false := by decide +kernel
@[simp] theorem is_Full_BadBounds : isub (Str.ofString "Full") (Str.ofString "BadBounds") = false := by decide +kernel
@[simp] theorem is_Full_BadDisk : isub (Str.ofString "Full") (Str.ofString "BadDisk") = false := by decide +kernel
@[simp] theorem is_Full_NoText : isub (Str.ofString "Full") (Str.ofString "NoText") = false := by decide +kernel
@[simp] theorem is_Full_NoRow : isub (Str.ofString "Full") (Str.ofString "NoRow") = false := by decide +kernel
@[simp] theorem is_NoKey_Full : isub (Str.ofString "NoKey") (Str.ofString "Full") = false := by decide +kernel
@[simp] theorem is_NoKey_NoKey : isub (Str.ofString "NoKey") (Str.ofString "NoKey") = true := by decide +kernel
@[simp] theorem is_NoKey_BadBounds : isub (Str.ofString "NoKey") (Str.ofString "BadBounds") = false := by decide +kernel
@[simp] theorem is_NoKey_BadDisk : isub (Str.ofString "NoKey") (Str.ofString "BadDisk") = false := by decide +kernel
@[simp] theorem is_NoKey_NoText : isub (Str.ofString "NoKey") (Str.ofString "NoText") = false := by decide +kernel
@[simp] theorem is_NoKey_NoRow : isub (Str.ofString "NoKey") (Str.ofString "NoRow") = false := by decide +kernel
theorem dpy_dk {S : Store} {k : Nat} {d : Dk} (h : DkAt S k d) : DPy S (.ref k) (.list [.list (d.a.map ePl.py), .list (d.b.map ePl.py), .list (d.c.map ePl.py)]) := by
  obtain ⟨i, j, l, h1, h2, h3, h4⟩ := h
  exact .lst h1 (.cons (.lst h2 (dpys_map ePl S d.a)) (.cons (.lst h3 (dpys_map ePl S d.b)) (.cons (.lst h4 (dpys_map ePl S d.c)) .nil)))
theorem shaped_dk (d : Dk) : SeqAt.shaped (.list [.list (d.a.map ePl.py), .list (d.b.map ePl.py), .list (d.c.map ePl.py)]) = true := by
  have h1 := depAll_map ePl d.a
  have h2 := depAll_map ePl d.b
  have h3 := depAll_map ePl d.c
  unfold SeqAt.shaped
  rw [Bool.and_eq_true]
  refine ⟨by simp only [PyData.canLay0, PyData.canLayAll0, layAll_map ePl d.a, layAll_map ePl d.b, layAll_map ePl d.c, Bool.and_self, Bool.true_and], decide_eq_true ?_⟩
  simp only [PyData.depth, PyData.depthAll]
  omega
theorem ne_dk {S : Store} {ρ : DEnv} {Q : PQ} {E : PX} {i j : Nat} {d : Dk} (h : DkAt S i d) (h2 : DkAt S j d) (q : Q (.bl false) S) : pNe (.ref i) (.ref j) ρ S Q E :=
  pNe_gen ⟨_, _, dpy_dk h, dpy_dk h2, shaped_dk d, shaped_dk d, by simpa [PyData.eqv, PyData.eqvAll, eqvAll_map] using q⟩
theorem eq_dk {S : Store} {ρ : DEnv} {Q : PQ} {E : PX} {i j : Nat} {d : Dk} (h : DkAt S i d) (h2 : DkAt S j d) (q : Q (.bl true) S) : pEq (.ref i) (.ref j) ρ S Q E :=
  pEq_gen ⟨_, _, dpy_dk h, dpy_dk h2, shaped_dk d, shaped_dk d, by simpa [PyData.eqv, PyData.eqvAll, eqvAll_map] using q⟩
/-- a write of a disk -/
def eDW : En DW where
  enc := dwE
  py := fun w => .tuple [.int w.1, .int w.2.1, ePl.py w.2.2]
  dpy := fun S w => .tup (.cons (.int _) (.cons (.int _) (.cons (ePl.dpy S w.2.2) .nil)))
  lay := fun w => by simp [PyData.canLay0, PyData.canLayAll0, ePl.lay]
  dep := fun w => by
    have := dep_pl w.2.2
    simp [PyData.depth, PyData.depthAll]; omega
  eqv := fun a b => by
    obtain ⟨a1, a2, a3⟩ := a; obtain ⟨b1, b2, b3⟩ := b
    simp [PyData.eqv, PyData.eqvAll, ePl.eqv, Bool.beq_eq_decide_eq, Bool.decide_and, Prod.mk.injEq]
  cl := fun n w => by
    have h := cls_dw n [w]
    simp only [List.map_cons, List.map_nil, Cls', and_true] at h
    exact h
/-- writes of a shelf, told as writes of a disk -/
theorem comp_tag {n a b c : Nat} {v : List Wr} {x : Int} {ρ : DEnv} {S : Store} {Q : PQ} (hs : S[n]? = some (wrp v)) (hv : ∀ p q : D, (setAll ρ [a, b] [p, q])[a]? = some (some p) ∧ (setAll ρ [a, b] [p, q])[b]? = some (some q) ∧ (setAll ρ [a, b] [p, q])[c]? = some (some (.int x)))
    (h : Q (.ref S.length) (S ++ [dwp (v.map (tagW x))])) : compG (atL n (v.map eWr.enc)) (tT [a, b]) wYes (wTup [wVar c, wVar a, wVar b]) (v.map eWr.enc) [] ρ S Q := by
  refine comp_pure (fun y => match y with | .tup [p, q] => some (.tup [.int x, p, q]) | _ => none) hs (fun y hy N hN => ?_) ?_
  · obtain ⟨w, _, rfl⟩ := List.mem_map.mp hy
    obtain ⟨h1, h2, h3⟩ := hv (.int w.1) (ePl.enc w.2)
    simp only [setAll] at h1 h2 h3
    simp [setAll, h1, h2, h3]
    simpa using hN
  · have : (v.map eWr.enc).filterMap (fun y => match y with | .tup [p, q] => some (D.tup [.int x, p, q]) | _ => none) = (v.map (tagW x)).map dwE := by
      clear hs h
      rw [List.filterMap_map, List.map_map]
      induction v with
      | nil => rfl
      | cons w v ih => rw [List.filterMap_cons, List.map_cons, ← ih]; rfl
    rw [this]; exact h
/-! ### dict(xs) of pairs of numbers, no key twice; x in a tuple of numbers -/
def bDict : BPf
  | [.ref n] => fun _ S Q _ => ∃ ts : List Th, S[n]? = some (thp ts) ∧ (ts.map (·.1)).Nodup ∧ Q (.ref S.length) (S ++ [mdl ts])
  | _ => fail
def pInTup : D → D → W
  | .int k, .tup ds => fun _ S Q _ => ∃ ns : List Int, ds = ns.map .int ∧ Q (.bl (decide (k ∈ ns))) S
  | _, _ => fail
theorem merge_nodup : ∀ (ts acc : List Th), ((acc ++ ts).map (·.1)).Nodup → mergeK (acc.map entI) (ts.map entI) = (acc ++ ts).map entI
  | [], acc, _ => by simp [mergeK]
  | t :: ts, acc, h => by
    have e : putK (acc.map entI) (entI t).1 (entI t).2 = (acc ++ [t]).map entI := by
      have hn : ((acc.map entI).any fun kv => decide (kv.1 = (entI t).1)) = false := by
        rw [List.any_eq_false]
        intro x hx hc
        obtain ⟨u, hu, rfl⟩ := List.mem_map.mp hx
        have : u.1 = t.1 := by simpa [entI] using hc
        rw [List.map_append, List.nodup_append] at h
        exact h.2.2 u.1 (List.mem_map.mpr ⟨u, hu, rfl⟩) t.1 (by simp) this
      unfold putK
      rw [hn]; simp
    have := merge_nodup ts (acc ++ [t]) (by simpa using h)
    unfold mergeK at this ⊢
    rw [List.map_cons, List.foldl_cons, e, this]
    simp
section
variable {K : PySem.W.Frag} {mg : Str → Option Value} {WW : WX}
theorem rds_pairs {φ : List Addr} {H : Hp} : ∀ {ts : List Th} {vs : List V}, RDs K φ H (ts.map eTh.enc) vs → ∃ ps : List Addr, vs = ps.map V.ref ∧ Paired (fun p (kv : Key × V) => SqT K H p [kV kv.1, kv.2]) ps (ts.map entI)
  | [], vs, h => ⟨[], by simpa [RDs] using h, .nil⟩
  | t :: ts, vs, h => by
    obtain ⟨v, r, rfl, h1, h2⟩ := (show RDs K φ H (eTh.enc t :: ts.map eTh.enc) vs from h).inv
    obtain ⟨ps, rfl, hp⟩ := rds_pairs h2
    have h1' : RD K φ H (.tup [.int t.1, .int t.2]) v := h1
    simp only [RD] at h1'
    obtain ⟨a, us, rfl, hH, hr⟩ := h1'
    have hu : us = [V.int t.1, V.int t.2] := by
      have := rds_int_inv (ks := [t.1, t.2]) (vs := us) hr
      simpa using this
    subst hu
    exact ⟨a :: ps, rfl, .cons (SqT.of hH) hp⟩
theorem rks_mdl {φ : List Addr} {H : Hp} (ts : List Th) : RKs K φ H (ts.map mEnc) (ts.map entI) := by
  refine ⟨by rw [List.map_map, List.map_map]; rfl, ?_⟩
  rw [List.map_map, List.map_map]
  have := rds_ints (K := K) (φ := φ) (H := H) (ts.map (·.2))
  simpa [Function.comp_def] using this
theorem pb_dict : PrB K mg WW bDict (fun xs H Q => ∃ (a : Addr) (ps : List Addr) (kvs : List (Key × V)), xs = [.ref a] ∧ SqL K H a (ps.map V.ref) ∧ Paired (fun p kv => SqT K H p [kV kv.1, kv.2]) ps kvs ∧ ∀ p, H p = none → Q (.ref p) (upd H p (.dK (mergeK [] kvs)))) := by
  intro φ ρ S σ H Q ds vs r h
  unfold bDict at h
  split at h
  · obtain ⟨v, rfl, q0⟩ := r.one
    obtain ⟨rs, re, Q', E', ⟨ts, h1, h2, hq⟩, hn, hx⟩ := h
    obtain ⟨a1, v1, rfl, _, e1, q1, z⟩ := rs.lst h1 q0
    obtain ⟨ps, rfl, hp⟩ := rds_pairs q1
    refine ⟨a1, ps, _, rfl, SqL.of e1, hp, fun p hpn => ?_⟩
    have em := merge_nodup ts [] (by simpa using h2)
    simp only [List.map_nil, List.nil_append] at em
    rw [em]
    have x := Ext.alloc (o := .dK (ts.map entI)) rs hpn
    exact hn _ _ hq _ _ _ x (rs.alloc hpn ⟨ts.map entI, upd_same, rks_mdl ts, by simpa using z⟩) (alloc_ref rs p)
  · exact h.no.elim
theorem pr_inTup : Pr2 K mg WW pInTup (rIn K false) := by
  intro φ ρ S σ H Q d1 d2 x y r1 r2 h
  unfold pInTup at h
  split at h
  · obtain ⟨rs, re, Q', E', ⟨ns, rfl, hq⟩, hn, hx⟩ := h
    simp only [RD] at r2
    obtain ⟨a, us, rfl, hH, hr⟩ := r2
    rw [rds_int_inv hr] at hH
    rw [r1.int_inv]
    refine ⟨a, _, rfl, .inr (SqT.of hH), rfl, flat_ints ns, ?_⟩
    rw [inV_ints]
    exact hn _ _ hq _ _ _ Ext.refl rs RD.bl
  · exact h.no.elim
end
section
variable {X : Cx} {WW : WX} {a b e : Expr} {es : List Expr} {pos p : Pos} {wa wb : W} {ws : List W}
theorem se_bDict (hg : Gl X "dict") (hm : X.mg "dict" = none) (ha : PA X (e :: es) (tma X.K X.mg WW ws)) (he : starEach (e :: es) X.env = (false, eval e X.env) :: starEach es X.env := by rfl) (hpl : (backTo pos (starEach es X.env)).any (·.1) = false := by rfl) (hc : X.calm = true := by rfl) :
    PE X (.Call (.Name "dict" p) (e :: es) [] pos) (tm X.K X.mg WW (wB bDict ws)) := se_callTy (call_dictP hc) pb_dict hg hm (by decide +kernel) ha (by decide) (by decide) he hpl
theorem se_inTup (hu : X.A.units + 65 < cLine) (ha : PE X a (tm X.K X.mg WW wa)) (hb : PE X b (tm X.K X.mg WW wb)) (hm : behindInMarks .In b = false := by first | exact nomark _ | rfl) : PE X (.Compare a [.In] [b] pos) (tm X.K X.mg WW (wOp pInTup wa wb)) := se_cmp op_in_seq pr_inTup ha hb hm
theorem st_inTup (hu : X.A.units + 65 < cLine) (ha : PE X a (tm X.K X.mg WW wa)) (hb : PE X b (tm X.K X.mg WW wb)) (hm : behindInMarks .In b = false := by first | exact nomark _ | rfl) : PT X (.Compare a [.In] [b] pos) (ttm X.K X.mg WW (wOp pInTup wa wb)) := st_cmp op_in_seq pr_inTup ha hb hm
end
@[simp] theorem e_bDict {n : Nat} {ρ : DEnv} {S : Store} {Q : PQ} {E : PX} : bDict [.ref n] ρ S Q E = ∃ ts : List Th, S[n]? = some (thp ts) ∧ (ts.map (·.1)).Nodup ∧ Q (.ref S.length) (S ++ [mdl ts]) := rfl
@[simp] theorem e_inTup {k : Int} {ds : List D} {ρ : DEnv} {S : Store} {Q : PQ} {E : PX} : pInTup (.int k) (.tup ds) ρ S Q E = ∃ ns : List Int, ds = ns.map .int ∧ Q (.bl (decide (k ∈ ns))) S := rfl
def layV (d : Dk) (w wh : Int) (h : Nat) : List Wr := ((tgs ((things (shOn d w wh h)).length : Nat) (szI w (h + 1))).zip (things (shOn d w wh h))).map fun x => (x.1, some x.2)
def grownS (d : Dk) (w wh : Int) (h : Nat) : List Pl := doneP (List.replicate (zN w (h + 1)) none) (layV d w wh h)
theorem doneP_take : ∀ (ws : List Wr) (ps : List Pl) (z : Nat), (doneP ps ws).take z = doneP (ps.take z) ws
  | [], _, _ => rfl
  | w :: ws, ps, z => by
    show (doneP (ps.set w.1.toNat w.2) ws).take z = doneP ((ps.take z).set w.1.toNat w.2) ws
    rw [doneP_take ws, List.take_set]
theorem doneP_clear : ∀ (l : List Nat) (ps : List Pl) (i : Nat), (doneP ps (l.map fun p : Nat => ((p : Int), (none : Pl))))[i]? = if i ∈ l ∧ i < ps.length then some none else ps[i]?
  | [], ps, i => by simp [doneP]
  | p :: l, ps, i => by
    show (doneP (ps.set ((p : Int)).toNat none) (l.map fun p : Nat => ((p : Int), (none : Pl))))[i]? = _
    rw [doneP_clear l, List.length_set, Int.toNat_natCast]
    by_cases h1 : i ∈ l
    · by_cases h2 : i < ps.length
      · rw [if_pos ⟨h1, h2⟩, if_pos ⟨List.mem_cons_of_mem _ h1, h2⟩]
      · rw [if_neg (fun h => h2 h.2), if_neg (fun h => h2 h.2), List.getElem?_eq_none (by simp; omega), List.getElem?_eq_none (by omega)]
    · rw [if_neg (fun h => h1 h.1)]
      by_cases h3 : p = i
      · subst h3
        by_cases h2 : p < ps.length
        · rw [if_pos ⟨List.mem_cons_self .., h2⟩, List.getElem?_set_self h2]
        · rw [if_neg (fun h => h2 h.2), List.getElem?_eq_none (by simp; omega), List.getElem?_eq_none (by omega)]
      · rw [List.getElem?_set_ne h3, if_neg]
        intro h
        rcases List.mem_cons.mp h.1 with e | e
        · exact h3 e.symm
        · exact h1 e
theorem cleared (ps : List Pl) : doneP ps ((fullN ps).map fun p : Nat => ((p : Int), (none : Pl))) = List.replicate ps.length none := by
  apply List.ext_getElem?
  intro i
  rw [doneP_clear]
  by_cases h : i < ps.length
  · rw [List.getElem?_replicate, if_pos h]
    by_cases hf : i ∈ fullN ps
    · rw [if_pos ⟨hf, h⟩]
    · rw [if_neg (fun e => hf e.1), List.getElem?_eq_getElem h]
      rw [fullN_mem] at hf
      unfold fullAt at hf
      rw [List.getElem?_eq_getElem h] at hf
      cases e : ps[i] with
      | none => rfl
      | some u => rw [e] at hf; simp at hf
  · rw [if_neg (fun e => h e.2), List.getElem?_eq_none (by omega), List.getElem?_replicate, if_neg h]
theorem grown_eq {d : Dk} {t w s wh : Int} {h : Nat} (o : DkOn d t w s wh h) (hlt : (h : Int) < t) : shOn (d.puts (growW d w wh h)) w (1 - wh) (h + 1) = grownS d w wh h := by
  obtain ⟨_, c2, _⟩ := grow_c (w := w) o.wh01 o.c
  have z2 := o.zle (k := h + 1) (by omega)
  have hlo := o.len (1 - wh)
  unfold shOn grownS
  rw [c2]
  have e : growV d w wh h = ((fullN (d.ar (1 - wh))).map fun p : Nat => ((p : Int), (none : Pl))) ++ layV d w wh h := rfl
  have : ((zN w (h + 1) : Nat) : Int) = szI w (h + 1) := by unfold zN; omega
  rw [e, doneP_app, cleared, doneP_take, List.take_replicate, Nat.min_eq_left (by omega)]
theorem cap_next {t w s : Int} {h : Nat} (g : Good t w s) (hlt : (h : Int) < t) : capI w s h < capI w s (h + 1) := by
  obtain ⟨g1, g2, g3, g4, g5, g6⟩ := g
  have h1 : s * (h + 3) ≤ s * (t + 2) := Int.mul_le_mul_of_nonneg_left (by omega) (by omega)
  rw [Int.mul_add] at h1
  unfold capI
  have e : (2 : Int) ^ (h + 1) * (w - s * ((h + 1 : Nat) : Int)) = 2 ^ h * (2 * (w - s * h - s)) := by
    rw [Int.pow_succ, Int.mul_assoc, Int.natCast_add, Int.mul_add]
    congr 2
    simp; omega
  rw [e]
  exact Int.mul_lt_mul_of_pos_left (by omega) (pow_posI h)
theorem things_set_len : ∀ (ps : List Pl) (i : Nat) (a : Pl), (things (ps.set i a)).length ≤ (things ps).length + 1
  | [], i, a => by simp [things]
  | p :: ps, 0, a => by
    cases p <;> cases a <;> simp [things] <;> omega
  | p :: ps, i + 1, a => by
    have := things_set_len ps i a
    cases p <;> simp [things] at this ⊢ <;> omega
theorem things_done_len : ∀ (ws : List Wr) (ps : List Pl), (things (doneP ps ws)).length ≤ (things ps).length + ws.length
  | [], ps => by simp [doneP]
  | w :: ws, ps => by
    have h1 := things_done_len ws (ps.set w.1.toNat w.2)
    have h2 := things_set_len ps w.1.toNat w.2
    simp only [List.length_cons]
    show (things (doneP (ps.set w.1.toNat w.2) ws)).length ≤ _
    omega
theorem grown_few {d : Dk} {w wh : Int} {h : Nat} : (things (grownS d w wh h)).length ≤ (things (shOn d w wh h)).length := by
  have h1 := things_done_len (layV d w wh h) (List.replicate (zN w (h + 1)) none)
  have h2 : things (List.replicate (zN w (h + 1)) (none : Pl)) = [] := (on_none _).things
  have h3 : (layV d w wh h).length ≤ (things (shOn d w wh h)).length := by unfold layV; simp [List.length_zip]; omega
  rw [h2] at h1
  unfold grownS
  simp only [List.length_nil, Nat.zero_add] at h1
  omega
theorem putW_len {p2 : List Pl} {w s key am : Int} {h2 : Nat} {v : List Wr} (e : putW p2 w s h2 key am = some v) : v.length ≤ 2 * p2.length + 1 := by
  unfold putW at e
  split at e
  · cases e; simp
  · split at e
    · cases e
      unfold evW
      rw [List.length_append, trWs_len]
      have := List.length_filter_le (fun x : Tr => decide (x.1 ≠ x.2.1)) (evT p2 (fN p2 w (lowK p2 w s h2 key) key) (zN w (lowK p2 w s h2 key)) key)
      have e2 : (evT p2 (fN p2 w (lowK p2 w s h2 key) key) (zN w (lowK p2 w s h2 key)) key).length = (cells p2).length := by
        have := congrArg List.length (evT_P (ps := p2) (f := fN p2 w (lowK p2 w s h2 key) key) (z := zN w (lowK p2 w s h2 key)) (key := key))
        simpa [trP] using this
      have e3 : (cells p2).length ≤ p2.length := by
        have := congrArg List.length (cells_things p2)
        rw [List.length_map] at this
        have := things_le p2
        omega
      simp only [List.length_cons, List.length_nil]; omega
    · cases e
theorem layV_cells {d : Dk} {w wh : Int} {h : Nat} (hz : 0 ≤ szI w (h + 1)) : layV d w wh h = ((aimsN 0 (zN w (h + 1)) (things (shOn d w wh h)).length).zip (things (shOn d w wh h))).map cw := by
  have ez : ((zN w (h + 1) : Nat) : Int) = szI w (h + 1) := by unfold zN; omega
  unfold layV
  have e : tgs ((things (shOn d w wh h)).length : Nat) (szI w (h + 1)) = (aimsN 0 (zN w (h + 1)) (things (shOn d w wh h)).length).map fun n : Nat => (n : Int) := by
    unfold tgs aimsN
    rw [List.map_map, Int.toNat_natCast]
    refine List.map_congr_left fun k _ => ?_
    show tg _ _ _ = ((aimAt 0 _ _ k : Nat) : Int)
    unfold tg aimAt
    rw [← ez]; simp
  rw [e]
  generalize aimsN 0 (zN w (h + 1)) (things (shOn d w wh h)).length = as
  generalize things (shOn d w wh h) = ts
  induction as generalizing ts with
  | nil => simp
  | cons a as ih =>
    cases ts with
    | nil => simp
    | cons t ts =>
      rw [List.map_cons, List.zip_cons_cons, List.zip_cons_cons, List.map_cons, List.map_cons, ih]; rfl
theorem grown_on {d : Dk} {t w s wh : Int} {h : Nat} (o : DkOn d t w s wh h) (hlt : (h : Int) < t) : On ((aimsN 0 (zN w (h + 1)) (things (shOn d w wh h)).length).zip (things (shOn d w wh h))) (grownS d w wh h) := by
  have z1 := o.zle o.ht
  have z2 := o.zle (k := h + 1) (by omega)
  have hth := things_le (shOn d w wh h)
  have hsl := o.shLen
  have hn := szI_next w h
  have ez : ((zN w (h + 1) : Nat) : Int) = szI w (h + 1) := by unfold zN; omega
  unfold grownS
  rw [layV_cells (by omega)]
  have hs : Srt ((aimsN 0 (zN w (h + 1)) (things (shOn d w wh h)).length).zip (things (shOn d w wh h))) := srt_zip (aimsN_srt (by omega)) (by rw [aimsN_length]; exact Nat.le_refl _)
  have := lay_all ((aimsN 0 (zN w (h + 1)) (things (shOn d w wh h)).length).zip (things (shOn d w wh h))) [] [] (List.replicate (zN w (h + 1)) none) (on_none _) (by simpa using hs) fun c hc => by
    have := aimsN_mem (by omega) (List.of_mem_zip (show (c.1, c.2) ∈ _ from hc)).1
    rw [List.length_replicate]; omega
  simpa using this
theorem grown_things {d : Dk} {t w s wh : Int} {h : Nat} (o : DkOn d t w s wh h) (hlt : (h : Int) < t) : things (grownS d w wh h) = things (shOn d w wh h) := by
  rw [(grown_on o hlt).things]
  exact List.map_snd_zip (by rw [aimsN_length]; exact Nat.le_refl _)
/-- a put's writes, one by one, also where they are not all -/
theorem put_done {ps : List Pl} {w s : Int} {h : Nat} {key : Int} (g : Geo ps w h) (hs : 0 ≤ s) (hr : Rises (things ps)) (hp : placeN ps key = none) (hc : ((things ps).length : Int) < capI w s h) (am : Int) (one : Bool) :
    DoneOk (things ps) one (evW ps (fN ps w (lowK ps w s h key) key) (zN w (lowK ps w s h key)) key am) ps := by
  have ok := (evens_of g hs hr hp hc).ok
  generalize fN ps w (lowK ps w s h key) key = f at *
  generalize zN w (lowK ps w s h key) = z at *
  unfold evW
  refine DoneOk.safe hr _ ?_
  have := ev_safe (ws := []) (F := fun s2 => DoneOk (things ps) one [(((newAim ps f z key : Nat) : Int), some (key, am))] s2) ok am fun s2 hs2 hl2 => ?_
  · rwa [List.append_nil] at this
  · obtain ⟨a1, a2, a3⟩ := ev_last ok am hs2 hl2
    exact ⟨⟨⟨by simp, by simpa using a2⟩, fun h => by simp at h, fun t _ => .inl (by simpa using a1)⟩, fun h => absurd rfl h, trivial⟩
/-! ### a deed's writes on a disk, one by one -/
structure Sign (e : Dk) (x : Int) (k : Nat) : Prop where
  c : e.c = [some (x, (k : Int))]
  x01 : x = 0 ∨ x = 1
  k4 : k ≤ 4
theorem DkOn.h4 {d : Dk} {t w s wh : Int} {h : Nat} (o : DkOn d t w s wh h) : h ≤ 4 := by
  have := o.ht
  have := o.good.2.1
  omega
def FreeD (w s : Int) (one : Bool) (e : Dk) (x : Int) (k : Nat) (v : DW) : Prop :=
  OkD e v ∧ (v.1 = 2 → ((things (shOn e w x k)).length : Int) = capI w s k ∧ v.2.2 = some (1 - x, (k : Int) + 1)) ∧ (v.1 = x → FreeOk one (shOn e w x k) v.2)
def DoneD (w s : Int) (ts : List Th) (one : Bool) : List DW → Dk → Prop
  | [], _ => True
  | v :: vs, e => ∃ x k x' k', Sign e x k ∧ FreeD w s one e x k v ∧ Sign (e.put v) x' k' ∧ (vs ≠ [] → (v.1 = 2 ∨ v.1 = x') → RowsOk ts (shOn (e.put v) w x' k')) ∧ DoneD w s ts one vs (e.put v)
theorem put_tag {x : Int} (hx : x = 0 ∨ x = 1) (e : Dk) (v : Wr) : (e.put (tagW x v)).ar x = (e.ar x).set v.1.toNat v.2 ∧ (e.put (tagW x v)).ar (1 - x) = e.ar (1 - x) ∧ (e.put (tagW x v)).c = e.c := by
  rcases hx with rfl | rfl
  · exact ⟨rfl, rfl, rfl⟩
  · exact ⟨rfl, rfl, rfl⟩
theorem shOn_put {x : Int} (hx : x = 0 ∨ x = 1) (e : Dk) (v : Wr) (w : Int) (k : Nat) : shOn (e.put (tagW x v)) w x k = (shOn e w x k).set v.1.toNat v.2 := by
  unfold shOn
  rw [(put_tag hx e v).1, List.take_set]
theorem okD_one {d : Dk} {x : Int} (hx : x = 0 ∨ x = 1) {v : Wr} (h : 0 ≤ v.1 ∧ v.1 < (d.ar x).length) : OkD d (tagW x v) := by
  refine ⟨h.1, ?_⟩
  rcases hx with rfl | rfl
  · exact .inl ⟨rfl, h.2⟩
  · exact .inr (.inl ⟨rfl, h.2⟩)
/-- on the shelf that counts -/
theorem done_on {w s : Int} {ts : List Th} {one : Bool} {x : Int} {k : Nat} : ∀ {v : List Wr} {e : Dk}, Sign e x k → DoneOk ts one v (shOn e w x k) → DoneD w s ts one (v.map (tagW x)) e
  | [], _, _, _ => trivial
  | v :: vs, e, sg, ⟨h1, h2, h3⟩ => by
    have hx := sg.x01
    obtain ⟨p1, p2, p3⟩ := put_tag hx e v
    have hle : (shOn e w x k).length ≤ (e.ar x).length := by unfold shOn; rw [List.length_take]; omega
    have sg' : Sign (e.put (tagW x v)) x k := ⟨by rw [p3]; exact sg.c, hx, sg.k4⟩
    refine ⟨x, k, x, k, sg, ⟨okD_one hx ⟨h1.1.1, by have := h1.1.2; omega⟩, fun e2 => ?_, fun _ => h1⟩, sg', fun hn _ => ?_, ?_⟩
    · have : x = 2 := e2
      omega
    · rw [shOn_put hx]
      exact h2 (fun e => hn (by rw [e]; rfl))
    · refine done_on sg' ?_
      rw [shOn_put hx]
      exact h3
/-- elsewhere -/
theorem done_off {w s : Int} {ts : List Th} {one : Bool} {x : Int} {k : Nat} {rest : List DW} : ∀ {v : List Wr} {e : Dk}, Sign e x k → OkW (e.ar (1 - x)).length v → DoneD w s ts one rest (e.puts (v.map (tagW (1 - x)))) → DoneD w s ts one (v.map (tagW (1 - x)) ++ rest) e
  | [], _, _, _, h => h
  | v :: vs, e, sg, hok, h => by
    have hx := sg.x01
    have hx' : 1 - x = 0 ∨ 1 - x = 1 := by omega
    obtain ⟨p1, p2, p3⟩ := put_tag hx' e v
    have sg' : Sign (e.put (tagW (1 - x) v)) x k := ⟨by rw [p3]; exact sg.c, hx, sg.k4⟩
    have h1 := hok v (List.mem_cons_self ..)
    refine ⟨x, k, x, k, sg, ⟨okD_one hx' h1, fun e2 => ?_, fun e2 => ?_⟩, sg', fun _ e2 => ?_, ?_⟩
    · have : 1 - x = 2 := e2
      omega
    · have : 1 - x = x := e2
      omega
    · have : 1 - x = 2 ∨ 1 - x = x := e2
      omega
    · refine done_off sg' (fun u hu => ?_) h
      rw [p1, List.length_set]
      exact hok u (List.mem_cons_of_mem _ hu)
inductive DDeed (t w s : Int) (d : Dk) (wh : Int) (h : Nat) (ks : List Th) : List DW → List Th → Prop where
  | none : DDeed t w s d wh h ks [] ks
  | worth (key am : Int) (p : Nat) : placeN (shOn d w wh h) key = some p → DDeed t w s d wh h ks [(wh, (p : Int), some (key, am))] (setTh ks key am)
  | take (key : Int) (p : Nat) : placeN (shOn d w wh h) key = some p → DDeed t w s d wh h ks [(wh, (p : Int), none)] (delTh ks key)
  | put (key am : Int) : placeN (shOn d w wh h) key = none → ((things (shOn d w wh h)).length : Int) < capI w s h →
      DDeed t w s d wh h ks ((evW (shOn d w wh h) (fN (shOn d w wh h) w (lowK (shOn d w wh h) w s h key) key) (zN w (lowK (shOn d w wh h) w s h key)) key am).map (tagW wh)) (ks ++ [(key, am)])
  | grow (key am : Int) : (h : Int) < t → placeN (shOn d w wh h) key = none → ((things (shOn d w wh h)).length : Int) = capI w s h →
      DDeed t w s d wh h ks (growW d w wh h ++ (evW (grownS d w wh h) (fN (grownS d w wh h) w (lowK (grownS d w wh h) w s (h + 1) key) key) (zN w (lowK (grownS d w wh h) w s (h + 1) key)) key am).map (tagW (1 - wh))) (ks ++ [(key, am)])
structure DEnd (t w s : Int) (ts : List Th) (d : Dk) (ws : List DW) (ks' : List Th) (n : Nat) (wh' : Int) (h' : Nat) : Prop where
  ok : DoneD w s ts (decide (ws.length = 1)) ws d
  on : DkOn (d.puts ws) t w s wh' h'
  perm : ks'.Perm (things (shOn (d.puts ws) w wh' h'))
  few : ((things (shOn (d.puts ws) w wh' h')).length : Int) ≤ capI w s h'
  len : ks'.length ≤ n + 1
  wl : ws.length ≤ 3000
theorem shOn_puts {x : Int} (hx : x = 0 ∨ x = 1) (e : Dk) (v : List Wr) (w : Int) (k : Nat) : shOn (e.puts (v.map (tagW x))) w x k = doneP (shOn e w x k) v := by
  unfold shOn
  rw [(puts_ar hx v e).1, doneP_take]
theorem puts_len (e : Dk) (ws : List DW) : (e.puts ws).a.length = e.a.length ∧ (e.puts ws).b.length = e.b.length := by
  induction ws generalizing e with
  | nil => exact ⟨rfl, rfl⟩
  | cons v ws ih =>
    have := ih (e.put v)
    rw [put_a, put_b] at this
    exact this
theorem noKey_iff (ps : List Pl) (key : Int) : placeN ps key = none ↔ ∀ t ∈ things ps, t.1 ≠ key := by
  constructor
  · exact place_none
  · intro h
    cases e : placeN ps key with
    | none => rfl
    | some p =>
      have : placeN ps key ≠ none := by rw [e]; simp
      obtain ⟨t, ht, e2⟩ := List.mem_map.mp ((keys_place ps key).mpr this)
      exact absurd e2 (h t ht)
theorem evW_pos (ps : List Pl) (f z : Nat) (key am : Int) : 1 ≤ (evW ps f z key am).length := by unfold evW; simp
/-- a deed on the shelf alone -/
theorem on_end {t w s : Int} {d : Dk} {wh : Int} {h : Nat} {ks ks' : List Th} {v : List Wr} (o : DkOn d t w s wh h) (hk : ks.Perm (things (shOn d w wh h))) (dd : Deed (shOn d w wh h) w s h ks v ks') (hf : ks'.length ≤ capI w s h) (hl : ks'.length ≤ ks.length + 1) :
    DEnd t w s (things (shOn d w wh h)) d (v.map (tagW wh)) ks' ks.length wh h := by
  have s0 : 0 ≤ s := by have := o.good.2.2.2.2.1; omega
  have de := deed_ok o.geo s0 o.ris hk dd
  have hx := o.wh01
  have z1 := o.zle o.ht
  have e := shOn_puts hx d v w h
  have pl := puts_len d (v.map (tagW wh))
  have pc := (puts_ar hx v d).2.2
  refine ⟨?_, ⟨by rw [pc]; exact o.c, hx, o.ht, o.good, by rw [pl.1]; exact o.la, by rw [pl.2]; exact o.lb, by rw [e]; exact de.ris⟩, by rw [e]; exact de.perm, ?_, hl, ?_⟩
  · have := de.ok
    rw [List.length_map]
    exact done_on ⟨o.c, hx, o.h4⟩ this
  · rw [e, ← de.perm.length_eq]; exact hf
  · rw [List.length_map]
    have hsl := o.shLen
    cases dd with
    | none => simp
    | worth key am p hp => simp
    | take key p hp => simp
    | put key am hp hc =>
      have e1 : putW (shOn d w wh h) w s h key am = some (evW (shOn d w wh h) (fN (shOn d w wh h) w (lowK (shOn d w wh h) w s h key) key) (zN w (lowK (shOn d w wh h) w s h key)) key am) := by
        unfold putW; rw [hp]; simp only; rw [if_pos hc]
      have := putW_len e1
      omega
theorem put_pack {ps : List Pl} {w s : Int} {h : Nat} {key : Int} (g : Geo ps w h) (hs : 0 ≤ s) (hr : Rises (things ps)) (hp : placeN ps key = none) (hc : ((things ps).length : Int) < capI w s h) (am : Int) (ks : List Th) :
    ∃ ev, putW ps w s h key am = some ev ∧ Deed ps w s h ks ev (ks ++ [(key, am)]) ∧ 1 ≤ ev.length ∧ DoneOk (things ps) false ev ps ∧ ev = evW ps (fN ps w (lowK ps w s h key) key) (zN w (lowK ps w s h key)) key am := by
  refine ⟨_, ?_, .put key am hp hc, evW_pos .., put_done g hs hr hp hc am false, rfl⟩
  unfold putW; rw [hp]; simp only; rw [if_pos hc]
theorem ddeed_ok {t w s : Int} {d : Dk} {wh : Int} {h : Nat} {ks ks' : List Th} {ws : List DW} (o : DkOn d t w s wh h) (hk : ks.Perm (things (shOn d w wh h))) (hf : ((things (shOn d w wh h)).length : Int) ≤ capI w s h) (dd : DDeed t w s d wh h ks ws ks') :
    ∃ wh' h', DEnd t w s (things (shOn d w wh h)) d ws ks' ks.length wh' h' := by
  have hkl := hk.length_eq
  cases dd with
  | none => exact ⟨wh, h, on_end o hk .none (by omega) (by omega)⟩
  | worth key am p hp => exact ⟨wh, h, on_end o hk (.worth key am p hp) (by simp [setTh]; omega) (by simp [setTh])⟩
  | take key p hp =>
    have := List.length_filter_le (fun u : Th => decide (u.1 ≠ key)) ks
    exact ⟨wh, h, on_end o hk (.take key p hp) (by unfold delTh; omega) (by unfold delTh; omega)⟩
  | put key am hp hc => exact ⟨wh, h, on_end o hk (.put key am hp hc) (by simp; omega) (by simp)⟩
  | grow key am hlt hp hc =>
    have s0 : 0 ≤ s := by have := o.good.2.2.2.2.1; omega
    have hx := o.wh01
    have hx' : 1 - wh = 0 ∨ 1 - wh = 1 := by omega
    have hge := grown_eq o hlt
    have hgt := grown_things o hlt
    have hcn := cap_next o.good hlt
    obtain ⟨c1, c2, c3⟩ := grow_c (w := w) hx o.c
    have pl := puts_len d (growW d w wh h)
    have z2 := o.zle (k := h + 1) (by omega)
    have hth := things_le (shOn d w wh h)
    have hsl := o.shLen
    have hnx := szI_next w h
    have o2 : DkOn (d.puts (growW d w wh h)) t w s (1 - wh) (h + 1) := ⟨by rw [c1]; simp, hx', by omega, o.good, by rw [pl.1]; exact o.la, by rw [pl.2]; exact o.lb, by rw [hge, hgt]; exact o.ris⟩
    have hp2 : placeN (grownS d w wh h) key = none := by
      rw [noKey_iff, hgt]
      exact (noKey_iff _ _).mp hp
    have hc2 : ((things (grownS d w wh h)).length : Int) < capI w s (h + 1) := by rw [hgt]; omega
    have hg2 : Geo (grownS d w wh h) w (h + 1) := by rw [← hge]; exact o2.geo
    have hr2 : Rises (things (grownS d w wh h)) := by rw [hgt]; exact o.ris
    obtain ⟨ev, hpw, dd2, hel, pd, hev⟩ := put_pack hg2 s0 hr2 hp2 hc2 am ks
    rw [← hev]
    have hpl := putW_len hpw
    have hgl : ((grownS d w wh h).length : Int) = szI w (h + 1) := hg2.len
    rw [hgt] at pd
    have dd3 : Deed (shOn (d.puts (growW d w wh h)) w (1 - wh) (h + 1)) w s (h + 1) ks ev (ks ++ [(key, am)]) := by rw [hge]; exact dd2
    have en := on_end (ks := ks) (ks' := ks ++ [(key, am)]) (v := ev) o2 (by rw [hge, hgt]; exact hk) dd3 (by simp; omega) (by simp)
    have hok := grow_ok o hlt (by omega)
    refine ⟨1 - wh, h + 1, ?_, ?_, ?_, ?_, en.len, ?_⟩
    · have hone : decide ((growW d w wh h ++ ev.map (tagW (1 - wh))).length = 1) = false := by
        refine decide_eq_false ?_
        rw [List.length_append, List.length_map]
        unfold growW
        simp; omega
      rw [hone]
      have hd2 : (d.puts ((growV d w wh h).map (tagW (1 - wh)))).put (2, 0, some (1 - wh, (h : Int) + 1)) = d.puts (growW d w wh h) := by unfold growW; rw [puts_app]; rfl
      have dn := done_on (w := w) (s := s) (ts := things (shOn d w wh h)) (one := false) (x := 1 - wh) (k := h + 1) ⟨o2.c, hx', o2.h4⟩ (by rw [hge]; exact pd)
      have eg : growW d w wh h ++ ev.map (tagW (1 - wh)) = (growV d w wh h).map (tagW (1 - wh)) ++ ((2, 0, some (1 - wh, (h : Int) + 1)) :: ev.map (tagW (1 - wh))) := by unfold growW; simp
      rw [eg]
      refine done_off ⟨o.c, hx, o.h4⟩ hok ?_
      obtain ⟨q1, q2, q3⟩ := puts_ar hx' (growV d w wh h) d
      rw [show (1 : Int) - (1 - wh) = wh by omega] at q2
      have hsame : shOn (d.puts ((growV d w wh h).map (tagW (1 - wh)))) w wh h = shOn d w wh h := by unfold shOn; rw [q2]
      refine ⟨wh, h, 1 - wh, h + 1, ⟨by rw [q3]; exact o.c, hx, o.h4⟩, ⟨⟨Int.le_refl 0, .inr (.inr ⟨rfl, by rw [q3, o.c]; simp⟩)⟩, fun _ => ⟨by rw [hsame]; exact hc, rfl⟩, fun e => ?_⟩, ?_, fun _ _ => ?_, ?_⟩
      · have : (2 : Int) = wh := e
        omega
      · rw [hd2]; exact ⟨o2.c, hx', o2.h4⟩
      · rw [hd2, hge]; exact .inl hgt
      · rw [hd2]; exact dn
    · rw [puts_app]; exact en.on
    · rw [puts_app]; exact en.perm
    · rw [puts_app]; exact en.few
    · rw [List.length_append, List.length_map]
      have hgw : (growW d w wh h).length ≤ 1000 := by
        unfold growW growV
        have hlo := o.len (1 - wh)
        have : (fullN (d.ar (1 - wh))).length ≤ (d.ar (1 - wh)).length := by unfold fullN; exact Nat.le_trans (List.length_filter_le _ _) (by simp)
        simp [List.length_zip]
        omega
      omega
/-! ### instances: their fields -/
def fputD (f : Str) (d : D) : List (Str × D) → List (Str × D)
  | [] => [(f, d)]
  | (g, e) :: r => if g = f then (g, d) :: r else (g, e) :: fputD f d r
def pFld (c f : Str) : D → W
  | .ref n => fun _ S Q _ => ∃ fs v, S[n]? = some (.ins c fs) ∧ fs.lookup f = some v ∧ Q v S
  | _ => fail
def wsFld (c f : Str) (o w : W) : WS := fun ρ S D E => w ρ S (fun d S1 => o ρ S1 (fun x S2 => ∃ n fs, x = .ref n ∧ S2[n]? = some (.ins c fs) ∧ fs.length < 1000 ∧ D.nx ρ (S2.set n (.ins c (fputD f d fs)))) E) E
/-- the class of the name c, none of whose classes has the names of F -/
def ClsF (K : PySem.W.Frag) (mg : Str → Option Value) (c : Str) (F : List Str) : Prop := ∃ C, mg c = some (.ref C) ∧ Cls K C ∧ ∀ f ∈ F, NoAttr K C f
theorem RKs.lookup {K : PySem.W.Frag} {φ : List Addr} {H : Hp} {f : Str} {d : D} : ∀ {ks : List (Str × D)} {vs : List (Str × V)}, RKs K φ H ks vs → ks.lookup f = some d → ∃ v, vs.lookup f = some v ∧ RD K φ H d v
  | [], _, _, e => by simp at e
  | (g, x) :: ks, [], h, _ => by have := h.1; simp at this
  | (g, x) :: ks, (g', y) :: vs, h, e => by
    obtain ⟨h1, h2⟩ := h
    simp only [List.map_cons, List.cons.injEq] at h1 h2
    obtain ⟨v, r, e2, r1, r2⟩ := h2.inv
    simp only [List.cons.injEq] at e2
    obtain ⟨rfl, rfl⟩ := e2
    obtain ⟨rfl, h1⟩ := h1
    simp only [List.lookup_cons] at e ⊢
    by_cases hb : (f == g) = true
    · rw [hb] at e ⊢; cases e; exact ⟨y, rfl, r1⟩
    · have hb : (f == g) = false := by simpa using hb
      rw [hb] at e ⊢; exact RKs.lookup ⟨h1, r2⟩ e
theorem RKs.lookupN {K : PySem.W.Frag} {φ : List Addr} {H : Hp} {f : Str} : ∀ {ks : List (Str × D)} {vs : List (Str × V)}, RKs K φ H ks vs → ks.lookup f = none → vs.lookup f = none
  | [], [], _, _ => rfl
  | [], _ :: _, h, _ => by have := h.1; simp at this
  | (g, x) :: ks, [], h, _ => by have := h.1; simp at this
  | (g, x) :: ks, (g', y) :: vs, h, e => by
    obtain ⟨h1, h2⟩ := h
    simp only [List.map_cons, List.cons.injEq] at h1 h2
    obtain ⟨v, r, e2, r1, r2⟩ := h2.inv
    simp only [List.cons.injEq] at e2
    obtain ⟨rfl, rfl⟩ := e2
    obtain ⟨rfl, h1⟩ := h1
    simp only [List.lookup_cons] at e ⊢
    by_cases hb : (f == g) = true
    · rw [hb] at e; cases e
    · have hb : (f == g) = false := by simpa using hb
      rw [hb] at e ⊢; exact RKs.lookupN ⟨h1, r2⟩ e
theorem RKs.fputD {K : PySem.W.Frag} {φ : List Addr} {H : Hp} {f : Str} {d : D} {v : V} (r : RD K φ H d v) : ∀ {ks : List (Str × D)} {vs : List (Str × V)}, RKs K φ H ks vs → RKs K φ H (fputD f d ks) (putF f v vs)
  | [], [], _ => ⟨rfl, RDs.cons r RDs.nil⟩
  | [], _ :: _, h => by have := h.1; simp at this
  | (g, x) :: ks, [], h => by have := h.1; simp at this
  | (g, x) :: ks, (g', y) :: vs, h => by
    obtain ⟨h1, h2⟩ := h
    simp only [List.map_cons, List.cons.injEq] at h1 h2
    obtain ⟨v', r', e2, r1, r2⟩ := h2.inv
    simp only [List.cons.injEq] at e2
    obtain ⟨rfl, rfl⟩ := e2
    obtain ⟨rfl, h1⟩ := h1
    show RKs K φ H (if g = f then (g, d) :: ks else (g, x) :: GS.fputD f d ks) (if g = f then (g, v) :: vs else (g, y) :: putF f v vs)
    by_cases hb : g = f
    · rw [if_pos hb, if_pos hb]
      exact ⟨by simp [h1], RDs.cons r r2⟩
    · rw [if_neg hb, if_neg hb]
      obtain ⟨i1, i2⟩ := RKs.fputD (f := f) r ⟨h1, r2⟩
      exact ⟨by simp [i1], RDs.cons r1 i2⟩
theorem RKs.length {K : PySem.W.Frag} {φ : List Addr} {H : Hp} {ks : List (Str × D)} {vs : List (Str × V)} (h : RKs K φ H ks vs) : ks.length = vs.length := by
  have := congrArg List.length h.1
  simpa using this
section
variable {X : Cx} {WW : WX} {a e o : Expr} {es : List Expr} {pos pos' apos p : Pos} {w wa wo : W} {ws : List W} {c f m : Str} {F : List Str}
theorem se_fld (cf : ClsF X.K X.mg c F) (hf : f ∈ F) (ha : PE X a (tm X.K X.mg WW wa)) (hb : attributeBase a f X.env (eval a X.env) = eval a X.env := by rfl) : PE X (.Attribute a f pos) (tm X.K X.mg WW (wOp1 (pFld c f) wa)) :=
  PE.conv (pe_fld ha hb) fun σ H Q q => tm_bind q fun d v φ ρ S H1 rd h => by
    unfold pFld at h
    split at h
    · obtain ⟨rs, re, Q', E', ⟨fs, w, h1, h2, hq⟩, hn, hx⟩ := h
      simp only [RD] at rd
      obtain ⟨a1, ha1, rfl⟩ := rd
      obtain ⟨C, dx, vs, hm, hH, hk⟩ := rs.cell _ _ a1 h1 ha1
      obtain ⟨C', hm', hc, hno⟩ := cf
      rw [hm] at hm'
      cases hm'
      obtain ⟨u, hl, ru⟩ := hk.lookup h2
      exact ⟨a1, C, dx, vs, u, rfl, hH, hc, hno f hf, hl, hn _ _ hq _ _ _ Ext.refl rs ru⟩
    · exact h.no.elim
theorem ss_fld (cf : ClsF X.K X.mg c F) (hf : f ∈ F) (ho : PE X o (tm X.K X.mg WW wo)) (he : PE X e (tm X.K X.mg WW w)) (hs : swapsWith e (some (.Attribute o f pos')) pos.line X.env = pure false := by rfl) :
    PS X (.Assign [.Attribute o f pos'] e pos) (tsm X.K X.mg WW (wsFld c f wo w)) := by
  refine PS.conv (ps_fld ho he hs) fun D σ H q => ?_
  refine ts_ex0 (k := fun d => fun ρ S1 D E => wo ρ S1 (fun x S2 => ∃ n fs, x = .ref n ∧ S2[n]? = some (.ins c fs) ∧ fs.length < 1000 ∧ D.nx ρ (S2.set n (.ins c (fputD f d fs)))) E) q fun d v φ1 ρ S1 H1 rd q1 => ?_
  refine tsA.ex (k := fun x => fun ρ S2 D E => ∃ n fs, x = .ref n ∧ S2[n]? = some (.ins c fs) ∧ fs.length < 1000 ∧ D.nx ρ (S2.set n (.ins c (fputD f d fs)))) q1 fun x xv φ2 S2 H2 e2 rx ⟨rs, re, D', E', ⟨n, fs, ex1, hl, hz, hw⟩, hn, hr, hx⟩ => ?_
  subst ex1
  simp only [RD] at rx
  obtain ⟨a1, ha1, rfl⟩ := rx
  obtain ⟨C, dx, vs, hm, hH, hk⟩ := rs.cell _ _ a1 hl ha1
  obtain ⟨C', hm', hc, hno⟩ := cf
  have hm2 := hm
  rw [hm] at hm'
  cases hm'
  have ex := Ext.write (o := .ins C dx (putF f v vs)) rs (List.mem_of_getElem? ha1)
  refine ⟨a1, C, dx, vs, rfl, hH, hc, hno f hf, by rw [← hk.length]; exact hz, ?_⟩
  exact hn _ _ hw _ _ _ ex (rs.write ha1 ⟨C, dx, _, hm2, upd_same, RKs.mono ex (RKs.fputD (rd.mono e2) hk)⟩) (re.mono ex)
/-! ### methods -/
def isI (c m : Str) (S : Store) : D → Prop
  | .ref n => ∃ fs, S[n]? = some (.ins c fs) ∧ fs.lookup m = none
  | _ => False
def wMeth (c m : Str) (sp : SPf) (wo : W) (ws : List W) (dfl : List D) : W := fun ρ S Q E => wo ρ S (fun d S1 => isI c m S1 d ∧ evWs ws ρ S1 (fun ds S2 => sp (d :: (ds ++ dfl)) S2 Q (fun x S3 => E x ρ S3)) E) E
/-- a method in its callers' eyes -/
def CalM (P : Program) (w : World) (K : PySem.W.Frag) (mg : Str → Option Value) (base : Heap) (c m : Str) (k : Nat) (ps : List Str) (sp : SPf) (dfl : List D) : Prop :=
  ∃ C f fd ds dvs, mg c = some (.ref C) ∧ Cls K C ∧ Meth K C m f ∧ FnOk P w K mg base (L2.CX P w) k f fd ps (spOf K mg sp) ∧ Binds K fd ps ds ∧ Vals dvs ds ∧ Paired flatD dfl dvs
def tMethS2 (C : Addr) (m : Str) (sp : Sp) (dvs : List V) (E : L2.St → XK) (ta : TE) (t : TA) : TE := fun σ H Q => ta σ H fun x H1 => ∃ a dx fs, x = .ref a ∧ H1 a = some (.ins C dx fs) ∧ fs.lookup m = none ∧
  t σ H1 fun vs H2 => sp (x :: (vs ++ dvs)) H2 Q (E σ)
section
variable {CX : CXT} {k : Nat} {g C : Addr} {fd : FuncData} {ps : List Str} {sp : Sp} {dvs : List V} {ds : List Value} {E : L2.St → XK} {ta : TE} {t : TA}
theorem pe_methS2 {pl : Sem Bool} (he : PE X o ta) (c : Cls X.K C) (hm : Meth X.K C m g) (F : FnOk X.prog X.w X.K X.mg X.base CX k g fd ps sp) (hr : Room k X.A) (hb : Binds X.K fd ps ds) (hd : Vals dvs ds) (hx : ∀ σ, PassesAt CX X σ (E σ)) (ha : PA X (e :: es) t)
    (hst : starEach (e :: es) X.env = (false, eval e X.env) :: starEach es X.env := by rfl) (hpl : (backTo pos (starEach es X.env)).any (·.1) = false := by rfl)
    (ht : eval (.Call (.Attribute o m apos) (e :: es) [] pos) X.env = (do
      let ov ← eval o X.env
      standAt apos.atName
      let (f, first) ← holding [ov] (getMethod ov m pl)
      callWith pos f first (backTo pos (starEach (e :: es) X.env)) (backToKw pos (keywordEach [] X.env))) := by rfl) :
    PE X (.Call (.Attribute o m apos) (e :: es) [] pos) (tMethS2 C m sp dvs E ta t) := by
  refine ⟨fun pins s σ H Q I h => ?_⟩
  refine PySem.W.methodCall_KW (pl := pl) (L2.thn (he.run pins s σ H _ I h) fun u s1 ⟨x, H1, I1, rx, a, dx, fs, ex, ea, l, q⟩ => ?_) ht
  subst ex
  obtain rfl : u = Value.ref a := rx
  refine getmeth_ok I1 ea c hm l ?_
  refine PySem.W.callWith_K (first := [.ref a]) (h₀ := X.base) I.ok.mod.kin hm.kp (L2.thn (ha.run pos pins s1 σ H1 _ I1 q) fun us s2 ⟨vs, H2, I2, r, q2⟩ => ⟨I2.kIn, ?_⟩) hst hpl
  exact run_fnSD (us := .ref a :: us) (vs := .ref a :: vs) F hr hb hd (hx σ) I2 (.cons rfl r) q2
theorem pe_methS20 {pl : Sem Bool} (he : PE X o ta) (c : Cls X.K C) (hm : Meth X.K C m g) (F : FnOk X.prog X.w X.K X.mg X.base CX k g fd ps sp) (hr : Room k X.A) (hb : Binds X.K fd ps ds) (hd : Vals dvs ds) (hx : ∀ σ, PassesAt CX X σ (E σ))
    (ht : eval (.Call (.Attribute o m apos) [] [] pos) X.env = (do
      let ov ← eval o X.env
      standAt apos.atName
      let (f, first) ← holding [ov] (getMethod ov m pl)
      callWith pos f first (backTo pos (starEach [] X.env)) (backToKw pos (keywordEach [] X.env))) := by rfl) :
    PE X (.Call (.Attribute o m apos) [] [] pos) (tMethS2 C m sp dvs E ta tNil) := by
  refine ⟨fun pins s σ H Q I h => ?_⟩
  refine PySem.W.methodCall_KW (pl := pl) (L2.thn (he.run pins s σ H _ I h) fun u s1 ⟨x, H1, I1, rx, a, dx, fs, ex, ea, l, q⟩ => ?_) ht
  subst ex
  obtain rfl : u = Value.ref a := rx
  refine getmeth_ok I1 ea c hm l ?_
  exact PySem.W.callWith_K0 (first := [.ref a]) I1.kIn hm.kp (run_fnSD (us := [.ref a]) (vs := [.ref a]) F hr hb hd (hx σ) I1 (.cons rfl .nil) q)
def tMakeS (C : Addr) (sp : Sp) (dvs : List V) (E : L2.St → XK) (t : TA) : TE := fun σ H Q => t σ H fun vs H1 => ∀ x dx, H1 x = none → H1 dx = none → dx ≠ x →
  sp (.ref x :: (vs ++ dvs)) (upd (upd H1 dx (.own x)) x (.ins C dx [])) (fun v H2 => v = .non ∧ Q (.ref x) H2) (E σ)
theorem run_makeS {pins : List (Addr × Obj)} {σ : L2.St} {H : Hp} {s : Shared} {Q : VK} {us : List Value} {vs : List V} (M : Mk X.K C g) (F : FnOk X.prog X.w X.K X.mg X.base CX k g fd ps sp) (hr : Room (k + 1) X.A) (hb : Binds X.K fd ps ds) (hd : Vals dvs ds)
    (hx : PassesAt CX X σ (E σ)) (I : Inv X pins σ H s) (r : Vals vs us)
    (h : ∀ x dx, H x = none → H dx = none → dx ≠ x → sp (.ref x :: (vs ++ dvs)) (upd (upd H dx (.own x)) x (.ins C dx [])) (fun v H2 => v = .non ∧ Q (.ref x) H2) (E σ)) :
    wpAny (model X.prog X.w) X.A (call (.ref C) us) (EP X pins σ Q) X.xe s := by
  have hq := h (s.heap.objs.size + 1) s.heap.objs.size (I.hok.fresh (Nat.le_succ _)) (I.hok.fresh (Nat.le_refl _)) (Nat.ne_of_lt (Nat.lt_succ_self _))
  have I2 := Inv.made (C := C) I
  have r2 : Vals (V.ref (s.heap.objs.size + 1) :: (vs ++ dvs)) (Value.ref (s.heap.objs.size + 1) :: (us ++ ds)) := .cons rfl (r.append hd)
  have hl : (Value.ref (s.heap.objs.size + 1) :: us ++ ds).length = ps.length := by
    have e := r2.length
    rw [F.len _ _ _ _ hq] at e
    exact e.symm
  refine wpAny_call (make_map (f := g) I.kIn M.makes M.init (beq_iff_eq.mp M.fn) (codeAny_mono (F.run _ X.stack _ _ ⟨Value.ref (s.heap.objs.size + 1) :: us, []⟩ (Value.ref (s.heap.objs.size + 1) :: (us ++ ds)) _ _ (E σ) (hr.make C us [])
    (I2.env0.make C us []) (hb _ (Value.ref (s.heap.objs.size + 1) :: us) I2.kIn hl) r2 hq) fun r s' hq' => ?_))
  cases r with
  | error e => exact hx pins _ _ e s' I2 hq'
  | ok fl =>
    cases fl with
    | ret u =>
      obtain ⟨v, H', I3, rv, ev, q3⟩ := I2.after hq'
      subst ev
      exact ⟨rv, ⟨V.ref (s.heap.objs.size + 1), H', I3, rfl, q3⟩⟩
    | next => exact False.elim hq'
    | brk => exact False.elim hq'
    | cont => exact False.elim hq'
theorem pe_makeS {x : Str} (M : Mk X.K C g) (F : FnOk X.prog X.w X.K X.mg X.base CX k g fd ps sp) (hr : Room (k + 1) X.A) (hg : Gl X x) (hm : X.mg x = some (.ref C)) (hb : Binds X.K fd ps ds) (hd : Vals dvs ds) (hx : ∀ σ, PassesAt CX X σ (E σ))
    (ha : PA X (e :: es) t) (hdb : (x == ("__debug__" : Str)) = false := by decide) (he : starEach (e :: es) X.env = (false, eval e X.env) :: starEach es X.env := by rfl) (hpl : (backTo pos (starEach es X.env)).any (·.1) = false := by rfl) :
    PE X (.Call (.Name x p) (e :: es) [] pos) (tMakeS C sp dvs E t) := by
  refine ⟨fun pins s σ H Q I h => ?_⟩
  refine wpAny_Call_Name_kw (ld_glob I hg hm ?_ hdb)
  refine PySem.W.callWith_K (h₀ := X.base) I.ok.mod.kin M.kp (L2.thn (ha.run pos pins s σ H _ I h) fun us s1 ⟨vs, H1, I1, r, q⟩ => ⟨I1.kIn, ?_⟩) he hpl
  exact run_makeS M F hr hb hd (hx σ) I1 r q
end
theorem isI_ok {K : PySem.W.Frag} {mg : Str → Option Value} {φ : List Addr} {S : Store} {H : Hp} {d : D} {v : V} (rs : RS K mg φ S H) (r : RD K φ H d v) (h : isI c m S d) : ∃ C a dx fs, mg c = some (.ref C) ∧ v = .ref a ∧ H a = some (.ins C dx fs) ∧ fs.lookup m = none := by
  cases d with
  | ref n =>
    obtain ⟨fs, h1, h2⟩ := h
    simp only [RD] at r
    obtain ⟨a1, ha1, rfl⟩ := r
    obtain ⟨C, dx, vs, hm, hH, hk⟩ := rs.cell _ _ a1 h1 ha1
    exact ⟨C, a1, dx, vs, hm, rfl, hH, hk.lookupN h2⟩
  | _ => exact h.elim
theorem se_meth {j k : Nat} {ps : List Str} {sp : SPf} {dfl : List D} (cm : CalM X.prog X.w X.K X.mg X.base c m k ps sp dfl) (hr : Room j X.A) (hk : k ≤ j) (tk : Takes X WW) (ho : PE X o (tm X.K X.mg WW wo)) (ha : PA X (e :: es) (tma X.K X.mg WW ws))
    (hst : starEach (e :: es) X.env = (false, eval e X.env) :: starEach es X.env := by rfl) (hpl : (backTo pos (starEach es X.env)).any (·.1) = false := by rfl) {pl : Sem Bool}
    (ht : eval (.Call (.Attribute o m apos) (e :: es) [] pos) X.env = (do
      let ov ← eval o X.env
      standAt apos.atName
      let (f, first) ← holding [ov] (getMethod ov m pl)
      callWith pos f first (backTo pos (starEach (e :: es) X.env)) (backToKw pos (keywordEach [] X.env))) := by rfl) :
    PE X (.Call (.Attribute o m apos) (e :: es) [] pos) (tm X.K X.mg WW (wMeth c m sp wo ws dfl)) := by
  obtain ⟨C, f, fd, ds, dvs, gC, hc, hM, F, hb, hd, hf⟩ := cm
  refine PE.conv (pe_methS2 (pl := pl) ho hc hM F (hr.mono hk) hb hd (E := WE WW) (fun σ => passAt tk σ) ha hst hpl ht) fun σ H Q ⟨φ, ρ, S, rs, re, Q', E', hw, hn, hx⟩ => ?_
  refine ⟨φ, ρ, S, rs, re, _, E', hw, fun d S0 ⟨hi, h0⟩ v φ0 H0 e0 rs0 rd0 => ?_, hx⟩
  obtain ⟨C', a, dx, fs, gC', rfl, hH, hl⟩ := isI_ok rs0 rd0 hi
  rw [gC] at gC'
  cases gC'
  refine ⟨a, dx, fs, rfl, hH, hl, φ0, ρ, S0, rs0, re.mono e0, _, E', h0, fun ds S1 h1 vs φ1 H1 e1 rs1 rd1 => ?_, fun c ρ2 S2 h2 u φ2 H2 σ2 y rs2 re2 m => hx c ρ2 S2 h2 u φ2 H2 σ2 (e0.trans y) rs2 re2 m⟩
  refine ⟨φ1, S1, _, rs1, RDs.cons (rd0.mono e1) (rd1.append (flats hf)), _, _, h1, fun d S2 h2 v φ2 H2 e2 rs2 rd2 => hn d S2 h2 v φ2 H2 ((e0.trans e1).trans e2) rs2 rd2, fun c S2 h2 u φ2 H2 e2 rs2 m => ?_⟩
  exact hx c ρ S2 h2 u φ2 H2 σ ((e0.trans e1).trans e2) rs2 (re.mono ((e0.trans e1).trans e2)) m
theorem se_meth0 {j k : Nat} {ps : List Str} {sp : SPf} {dfl : List D} (cm : CalM X.prog X.w X.K X.mg X.base c m k ps sp dfl) (hr : Room j X.A) (hk : k ≤ j) (tk : Takes X WW) (ho : PE X o (tm X.K X.mg WW wo)) {pl : Sem Bool}
    (ht : eval (.Call (.Attribute o m apos) [] [] pos) X.env = (do
      let ov ← eval o X.env
      standAt apos.atName
      let (f, first) ← holding [ov] (getMethod ov m pl)
      callWith pos f first (backTo pos (starEach [] X.env)) (backToKw pos (keywordEach [] X.env))) := by rfl) :
    PE X (.Call (.Attribute o m apos) [] [] pos) (tm X.K X.mg WW (wMeth c m sp wo [] dfl)) := by
  obtain ⟨C, f, fd, ds, dvs, gC, hc, hM, F, hb, hd, hf⟩ := cm
  refine PE.conv (pe_methS20 (pl := pl) ho hc hM F (hr.mono hk) hb hd (E := WE WW) (fun σ => passAt tk σ) ht) fun σ H Q ⟨φ, ρ, S, rs, re, Q', E', hw, hn, hx⟩ => ?_
  refine ⟨φ, ρ, S, rs, re, _, E', hw, fun d S0 ⟨hi, h0⟩ v φ0 H0 e0 rs0 rd0 => ?_, hx⟩
  obtain ⟨C', a, dx, fs, gC', rfl, hH, hl⟩ := isI_ok rs0 rd0 hi
  rw [gC] at gC'
  cases gC'
  refine ⟨a, dx, fs, rfl, hH, hl, φ0, S0, _, rs0, RDs.cons rd0 (flats hf), _, _, h0, fun d S2 h2 v φ2 H2 e2 rs2 rd2 => hn d S2 h2 v φ2 H2 (e0.trans e2) rs2 rd2, fun c S2 h2 u φ2 H2 e2 rs2 m => ?_⟩
  exact hx c ρ S2 h2 u φ2 H2 σ (e0.trans e2) rs2 (re.mono (e0.trans e2)) m
/-! ### a new instance -/
def wMake (c : Str) (sp : SPf) (ws : List W) : W := fun ρ S Q E => evWs ws ρ S (fun ds S1 => sp (.ref S1.length :: ds) (S1 ++ [.ins c []]) (fun v S2 => v = .non ∧ Q (.ref S1.length) S2) (fun x S2 => E x ρ S2)) E
def CalI (P : Program) (w : World) (K : PySem.W.Frag) (mg : Str → Option Value) (base : Heap) (c : Str) (k : Nat) (ps : List Str) (sp : SPf) : Prop :=
  ∃ C f fd, mg c = some (.ref C) ∧ Mk K C f ∧ FnOk P w K mg base (L2.CX P w) k f fd ps (spOf K mg sp) ∧ Binds K fd ps []
theorem se_make {j k : Nat} {ps : List Str} {sp : SPf} (ci : CalI X.prog X.w X.K X.mg X.base c k ps sp) (hr : Room j X.A) (hk : k + 1 ≤ j) (hg : Gl X c) (tk : Takes X WW) (ha : PA X (e :: es) (tma X.K X.mg WW ws)) (hdb : (c == ("__debug__" : Str)) = false := by decide)
    (he : starEach (e :: es) X.env = (false, eval e X.env) :: starEach es X.env := by rfl) (hpl : (backTo pos (starEach es X.env)).any (·.1) = false := by rfl) : PE X (.Call (.Name c p) (e :: es) [] pos) (tm X.K X.mg WW (wMake c sp ws)) := by
  obtain ⟨C, f, fd, gC, M, F, hb⟩ := ci
  refine PE.conv (pe_makeS M F (hr.mono hk) hg gC hb .nil (E := WE WW) (fun σ => passAt tk σ) ha hdb he hpl) fun σ H Q ⟨φ, ρ, S, rs, re, Q', E', hw, hn, hx⟩ => ?_
  refine ⟨φ, ρ, S, rs, re, _, E', hw, fun ds S1 h1 vs φ1 H1 e1 rs1 rd1 x dx nx ndx ne => ?_, hx⟩
  have x1 : Ext φ1 H1 φ1 (upd H1 dx (.own x)) := Ext.laid rs1 ndx
  have rs2 : RS X.K X.mg φ1 S1 (upd H1 dx (.own x)) := rs1.laid ndx
  have nx2 : (upd H1 dx (.own x)) x = none := by rw [upd_ne ne.symm]; exact nx
  have x2 : Ext φ1 (upd H1 dx (.own x)) (φ1 ++ [x]) (upd (upd H1 dx (.own x)) x (.ins C dx [])) := Ext.alloc rs2 nx2
  have rs3 : RS X.K X.mg (φ1 ++ [x]) (S1 ++ [.ins c []]) (upd (upd H1 dx (.own x)) x (.ins C dx [])) := rs2.alloc nx2 ⟨C, dx, [], gC, upd_same, rfl, RDs.nil⟩
  have rx : RD X.K (φ1 ++ [x]) (upd (upd H1 dx (.own x)) x (.ins C dx [])) (.ref S1.length) (.ref x) := alloc_ref rs2 x
  have x3 := e1.trans (x1.trans x2)
  refine ⟨φ1 ++ [x], S1 ++ [.ins c []], _, rs3, RDs.cons rx ((rd1.mono (x1.trans x2)).append (flats .nil)), (fun v S2 => v = .non ∧ Q' (.ref S1.length) S2), (fun y S2 => E' y ρ S2), (by rw [List.append_nil]; exact h1), fun d S2 h2 v φ2 H2 e2 rs4 rd2 => ?_, fun c S2 h2 u φ2 H2 e2 rs4 m => ?_⟩
  · obtain ⟨rfl, h2⟩ := h2
    exact ⟨rd2.non_inv, hn _ _ h2 _ _ _ (x3.trans e2) rs4 (rx.mono e2)⟩
  · exact hx c ρ S2 h2 u φ2 H2 σ (x3.trans e2) rs4 (re.mono (x3.trans e2)) m
end
theorem flat_non : Paired flatD [D.non] [V.non] := .cons (fun K φ H => RD.non) .nil
theorem vals_non : Vals [V.non] [Value.none] := .cons rfl .nil
theorem fn_okD {P : Program} {w : World} {K : PySem.W.Frag} {mg : Str → Option Value} {base : Heap} {x qual : Str} {st : Stmt} {f : Addr} {fd : FuncData} {N ps : List Str} {k : Nat} {sp : SPf} {dvs : List V} {kws : List (Str × V)} (F : FunD K x qual (defArgs st) (defBody st) (defScope st) dvs kws f fd) (S : FnScope N ps (defScope st)) (u : WS)
    (len : ∀ ds S Q E, sp ds S Q E → ds.length = ps.length)
    (hb : ∀ (cdv : Value) (A : Around) (outer : List Env) (s : Shared) (H : Hp) (E : XK), Room k (A.deeper (envOfC qual (defScope st) s.heap.objs.size f cdv)) →
      PSs (cxOf (L2.CX P w) P w K mg base N qual (defScope st) f cdv A outer s H E) (defBody st) (tsm K mg (fun cls d _ H => E cls d H) u))
    (ob : Ob N sp u) : FnOk P w K mg base (L2.CX P w) (k + 1) f fd ps (spOf K mg sp) := by
  refine F.ok S (fun vs H Q E ⟨φ, S, ds, rs, rd, Q', E', h, _⟩ => ?_) fun cdv A outer s H vs Q E hr ⟨φ, S, ds, rs, rd, Q', E', h, hn, hx⟩ => ?_
  · rw [← rd.length]; exact len _ _ _ _ h
  · have ret : ∀ d S', RetQ S.length Q' d S' → ∀ v φ' H', Ext φ H φ' H' → RS K mg φ' S' H' → RD K φ' H' d v → Q v H' := fun d S' hq v φ' H' x rs' rd' => by
      rcases hq with hq | ⟨S2, d2, g, hq⟩
      · exact hn d S' hq v φ' H' x rs' rd'
      · obtain ⟨φ2, x2, rs2, rd2⟩ := gc_ok x rs.len rs' rd' g
        exact hn d2 S2 hq v φ2 H' x2 rs2 rd2
    refine ⟨_, hb cdv A outer s H E hr, φ, startD N ds, S, rs, RE.st rd, _, _, ob ds S Q' E' rs.cl (by rw [← rs.len]; exact rd.cl) h, fun ρ' S' hq σ' φ' H' x rs' re' => ret .non S' hq .non φ' H' x rs' RD.non, ret, fun c ρ' S' hq u φ' H' σ' x rs' re' m => ?_⟩
    rcases hq with hq | ⟨S2, g, hq⟩
    · exact hx c S' hq u φ' H' x rs' m
    · obtain ⟨φ2, x2, rs2, rd2⟩ := gc_ok x rs.len rs' (RD.non (φ := φ') (H := H')) g
      exact hx c S2 hq u φ2 H' x2 rs2 m
/-- a def with one default, None -/
theorem fund_mk {K : PySem.W.Frag} {x qual : Str} {st : Stmt} {f T : Addr} {oc oc2 : Value} {od od2 an : Option Addr} {osl osl2 : Array (Option Value)} {kV doc pm cdv ct : Value} {n : Nat} (l : K.lookup f = some ⟨oc, od, .func (PySem.W.fnOf x qual (defArgs st) (defBody st) (defScope st) (.ref T) kV doc pm an cdv ct), osl⟩)
    (c : PySem.W.codeIn K cdv qual = true) (k : PySem.W.keepIn K (.ref f) = true) (lT : K.lookup T = some ⟨oc2, od2, .seq #[Value.none] n, osl2⟩) : FunD K x qual (defArgs st) (defBody st) (defScope st) [V.non] [] f (PySem.W.fnOf x qual (defArgs st) (defBody st) (defScope st) (.ref T) kV doc pm an cdv ct) :=
  ⟨⟨oc, od, .ref T, kV, doc, pm, an, cdv, ct, osl, rfl, l, c, .inr ⟨by simp, T, _, [Value.none], n, rfl, lT, rfl, .cons rfl .nil⟩, .inl rfl⟩, k⟩
/-- with and without it -/
theorem fund_all {K : PySem.W.Frag} {x qual : Str} {st : Stmt} {f : Addr} {fd : FuncData} {ps : List Str} (F : FunD K x qual (defArgs st) (defBody st) (defScope st) [V.non] [] f fd) (n : Nat) (hn : n = ps.length)
    (h : ∀ (T : Addr) (kV doc pm : Value) (an : Option Addr) (cdv ct : Value) (us its : List Value), us.length = n → its.length = 1 →
      ∃ k, bindArgs (PySem.W.fnOf x qual (defArgs st) (defBody st) (defScope st) (.ref T) kV doc pm an cdv ct) ⟨us, []⟩ = seqItems? (.ref T) >>= k ∧ k (some its.toArray) = pure (ps.zip (us ++ its.drop 1))) : Binds K fd ps [] := by
  obtain ⟨ds, r, b⟩ := F.binds1 (ps := ps) n 1 (by simp) (by simpa using hn) h
  cases r
  exact b
theorem fund_one {K : PySem.W.Frag} {x qual : Str} {st : Stmt} {f : Addr} {fd : FuncData} {ps : List Str} (F : FunD K x qual (defArgs st) (defBody st) (defScope st) [V.non] [] f fd) (n : Nat) (hn : n + 1 = ps.length)
    (h : ∀ (T : Addr) (kV doc pm : Value) (an : Option Addr) (cdv ct : Value) (us its : List Value), us.length = n → its.length = 1 →
      ∃ k, bindArgs (PySem.W.fnOf x qual (defArgs st) (defBody st) (defScope st) (.ref T) kV doc pm an cdv ct) ⟨us, []⟩ = seqItems? (.ref T) >>= k ∧ k (some its.toArray) = pure (ps.zip (us ++ its.drop 0))) : ∃ ds, Vals [V.non] ds ∧ Binds K fd ps ds :=
  F.binds1 (ps := ps) n 0 (by simp) (by simpa using hn) h
/-- what the callers want of a method -/
theorem calm_mk {P : Program} {w : World} {K : PySem.W.Frag} {mg : Str → Option Value} {base : Heap} {c m : Str} {C f : Addr} {fd : FuncData} {k : Nat} {ps : List Str} {sp : SPf} (gC : mg c = some (.ref C)) (hc : Cls K C) (hM : Meth K C m f) (F : FnOk P w K mg base (L2.CX P w) k f fd ps (spOf K mg sp)) (b : Binds K fd ps []) : CalM P w K mg base c m k ps sp [] :=
  ⟨C, f, fd, [], [], gC, hc, hM, F, b, .nil, .nil⟩
theorem calm_mkD {P : Program} {w : World} {K : PySem.W.Frag} {mg : Str → Option Value} {base : Heap} {c m : Str} {C f : Addr} {fd : FuncData} {k : Nat} {ps : List Str} {sp : SPf} (gC : mg c = some (.ref C)) (hc : Cls K C) (hM : Meth K C m f) (F : FnOk P w K mg base (L2.CX P w) k f fd ps (spOf K mg sp)) (b : ∃ ds, Vals [V.non] ds ∧ Binds K fd ps ds) : CalM P w K mg base c m k ps sp [D.non] := by
  obtain ⟨ds, r, b⟩ := b
  exact ⟨C, f, fd, ds, [V.non], gC, hc, hM, F, b, r, flat_non⟩
/-! ### symbolic -/
section
variable {ρ : DEnv} {S : Store} {Q : PQ} {E : PX} {D : DEnds} {n : Nat}
@[simp] theorem e_fld {c f : Str} : pFld c f (.ref n) ρ S Q E = ∃ fs v, S[n]? = some (.ins c fs) ∧ fs.lookup f = some v ∧ Q v S := rfl
@[simp] theorem e_sfld {c f : Str} {o w : W} : wsFld c f o w ρ S D E = w ρ S (fun d S1 => o ρ S1 (fun x S2 => ∃ n fs, x = .ref n ∧ S2[n]? = some (.ins c fs) ∧ fs.length < 1000 ∧ D.nx ρ (S2.set n (.ins c (fputD f d fs)))) E) E := rfl
@[simp] theorem e_isI {c m : Str} : isI c m S (.ref n) = ∃ fs, S[n]? = some (.ins c fs) ∧ fs.lookup m = none := rfl
@[simp] theorem e_meth {c m : Str} {sp : SPf} {wo : W} {ws : List W} {dfl : List GS.D} : wMeth c m sp wo ws dfl ρ S Q E = wo ρ S (fun d S1 => isI c m S1 d ∧ evWs ws ρ S1 (fun ds S2 => sp (d :: (ds ++ dfl)) S2 Q (fun x S3 => E x ρ S3)) E) E := rfl
@[simp] theorem e_make {c : Str} {sp : SPf} {ws : List W} : wMake c sp ws ρ S Q E = evWs ws ρ S (fun ds S1 => sp (.ref S1.length :: ds) (S1 ++ [.ins c []]) (fun v S2 => v = .non ∧ Q (.ref S1.length) S2) (fun x S2 => E x ρ S2)) E := rfl
end
/-! ### values that are asked whether they are disks -/
def tmD (S : Store) : D → Prop
  | .tup ds => (∀ e ∈ ds, (tyName S e).isSome = true) ∧ ∃ ps, DPys S ds ps ∧ SeqAt.shaped (.tuple ps) = true
  | d => (tyName S d).isSome = true
def isPr : D → Bool
  | .tup [.int _, .int _] => true
  | _ => false
def isPc : D → Bool
  | .tup [.int _, .int _] => true
  | .tup [] => true
  | _ => false
def tmL (S : Store) : D → Prop
  | .ref n => (tyName S (.ref n)).isSome = true ∧ ∀ xs, S[n]? = some (.lst xs) → ∀ x ∈ xs, tmD S x
  | d => (tyName S d).isSome = true
def arB (z : Int) (S : Store) : D → Bool
  | .ref n => match S[n]? with
    | some (.lst xs) => decide ((xs.length : Int) = z) && xs.all isPc
    | _ => false
  | _ => false
def sgB (t : Int) (S : Store) : D → Bool
  | .ref n => match S[n]? with
    | some (.lst [.tup [.int w, .int h]]) => decide (0 ≤ w ∧ w ≤ 1) && decide (0 ≤ h ∧ h ≤ t)
    | _ => false
  | _ => false
def dkB (t w : Int) (S : Store) : D → Bool
  | .ref n => match S[n]? with
    | some (.lst [a, b, c]) => sgB t S c && (arB (2 ^ t.toNat * w) S a && arB (2 ^ t.toNat * w) S b)
    | _ => false
  | _ => false
def tmK (S : Store) : D → Prop
  | .ref n => (tyName S (.ref n)).isSome = true ∧ ∀ xs, S[n]? = some (.lst xs) → ∀ x ∈ xs, tmL S x
  | d => (tyName S d).isSome = true
/-- a disk by its form -/
def DkF (t w wh : Int) (h : Nat) (d : Dk) : Prop := d.c = [some (wh, (h : Int))] ∧ (wh = 0 ∨ wh = 1) ∧ (h : Int) ≤ t ∧ (d.a.length : Int) = szI w t.toNat ∧ (d.b.length : Int) = szI w t.toNat
def sp_is_pair : SPf
  | [d], S, Q, _ => tmD S d ∧ Q (.bl (isPr d)) S
  | _, _, _, _ => False
def sp_is_area : SPf
  | [d, .int z], S, Q, _ => tmL S d ∧ Q (.bl (arB z S d)) S
  | _, _, _, _ => False
def sp_is_sign : SPf
  | [.tup [.int t, .int _, .int _], d], S, Q, _ => tmL S d ∧ Q (.bl (sgB t S d)) S
  | _, _, _, _ => False
def sp_is_disk : SPf
  | [.tup [.int t, .int w, .int s], d], S, Q, _ => Good t w s ∧ tmK S d ∧ (dkB t w S d = false → Q (.bl false) S) ∧
    ∀ (n : Nat) (k : Dk) (wh : Int) (h : Nat), d = .ref n → DkAt S n k → DkF t w wh h k → ∀ qs, Mend (shOn k w wh h) qs → Q (.bl (decide (Rises (things qs)) && decide (((things qs).length : Int) ≤ capI w s h))) S
  | _, _, _, _ => False
theorem len_is_pair : ∀ ds S Q E, sp_is_pair ds S Q E → ds.length = 1 := by
  intro ds S Q E h; unfold sp_is_pair at h; split at h <;> first | rfl | exact h.elim
theorem len_is_area : ∀ ds S Q E, sp_is_area ds S Q E → ds.length = 2 := by
  intro ds S Q E h; unfold sp_is_area at h; split at h <;> first | rfl | exact h.elim
theorem len_is_sign : ∀ ds S Q E, sp_is_sign ds S Q E → ds.length = 2 := by
  intro ds S Q E h; unfold sp_is_sign at h; split at h <;> first | rfl | exact h.elim
theorem len_is_disk : ∀ ds S Q E, sp_is_disk ds S Q E → ds.length = 2 := by
  intro ds S Q E h; unfold sp_is_disk at h; split at h <;> first | rfl | exact h.elim
abbrev n_is_pair : List Str := ["thing"]
def w_is_pair : WS :=
  wsSeq (wsIf (wOr (wNot (wOp1 (pIsi "tuple") (wVar 0))) (wOp pNe (wB bLen [wVar 0]) (ret (.int 2)))) (wsRet (ret (.bl false))) (wsNil)) (wsRet (wAnd (wCall sp_is_whole [wOp pIx (wVar 0) (ret (.int 0))] []) (wCall sp_is_whole [wOp pIx (wVar 0) (ret (.int 1))] [])))

abbrev n_is_area : List Str := ["thing", "size", "one"]
def w_is_area : WS :=
  wsSeq (wsIf (wOr (wNot (wOp1 (pIsi "list") (wVar 0))) (wOp pNe (wB bLen [wVar 0]) (wVar 1))) (wsRet (ret (.bl false))) (wsNil)) (wsSeq (wsFor (tN 2) (wVar 0) (wsIf (wAnd (wNot (wCall sp_is_pair [wVar 2] [])) (wOr (wNot (wOp1 (pIsi "tuple") (wVar 2))) (wOp pNe (wVar 2) (wTup [])))) (wsRet (ret (.bl false))) (wsNil))) (wsRet (ret (.bl true))))

abbrev n_is_sign : List Str := ["bounds", "thing"]
def w_is_sign : WS :=
  wsSeq (wsIf (wOr (wNot (wOp1 (pIsi "list") (wVar 1))) (wOr (wOp pNe (wB bLen [wVar 1]) (ret (.int 1))) (wNot (wCall sp_is_pair [wOp pIx (wVar 1) (ret (.int 0))] [])))) (wsRet (ret (.bl false))) (wsNil)) (wsRet (wAnd (wChain pLe pLe (ret (.int 0)) (wOp pIx (wOp pIx (wVar 1) (ret (.int 0))) (ret (.int 0))) (ret (.int 1))) (wChain pLe pLe (ret (.int 0)) (wOp pIx (wOp pIx (wVar 1) (ret (.int 0))) (ret (.int 1))) (wOp pIx (wVar 0) (ret (.int 0))))))

abbrev n_is_disk : List Str := ["bounds", "thing", "size", "shelf"]
def w_is_disk : WS :=
  wsSeq (wsIf (wOr (wNot (wOp1 (pIsi "list") (wVar 1))) (wOr (wOp pNe (wB bLen [wVar 1]) (ret (.int 3))) (wNot (wCall sp_is_sign [wVar 0, wOp pIx (wVar 1) (ret (.int 2))] [])))) (wsRet (ret (.bl false))) (wsNil)) (wsSeq (wsSet 2 (wCall sp_places_of [wVar 0, wOp pIx (wVar 0) (ret (.int 0))] [])) (wsSeq (wsIf (wOr (wNot (wCall sp_is_area [wOp pIx (wVar 1) (ret (.int 0)), wVar 2] [])) (wNot (wCall sp_is_area [wOp pIx (wVar 1) (ret (.int 1)), wVar 2] []))) (wsRet (ret (.bl false))) (wsNil)) (wsSeq (wsSet 3 (wCall sp_shelf_on [wVar 0, wVar 1] [])) (wsRet (wAnd (wCall sp_is_sound [wVar 3] []) (wOp pLe (wB bLen [wCall sp_rows_of [wVar 3] []]) (wCall sp_cap_of [wVar 0, wOp pIx (wOp pIx (wOp pIx (wVar 1) (ret (.int 2))) (ret (.int 0))) (ret (.int 1))] [])))))))

theorem tmD_ty {S : Store} {d : D} (h : tmD S d) : ∃ a, tyName S d = some a := by
  apply Option.isSome_iff_exists.mp
  cases d with
  | tup ds => rfl
  | _ => exact h
theorem ob_is_pair : Ob n_is_pair sp_is_pair w_is_pair := by
  intro ds S Q E hS hd h
  unfold sp_is_pair at h
  split at h
  · rename_i d
    obtain ⟨ht, hq⟩ := h
    obtain ⟨a, ha⟩ := tmD_ty ht
    by_cases e : a = "tuple"
    · subst e
      obtain ⟨ds, rfl⟩ : ∃ ds, d = .tup ds := by
        cases d with
        | tup ds => exact ⟨ds, rfl⟩
        | ref n =>
          simp only [tyName] at ha
          split at ha <;> simp at ha
        | _ => simp [tyName] at ha
      match ds, ht, hq with
      | [], ht, hq => simp [w_is_pair, startD, isi]; exact ret_same hq
      | [x], ht, hq => simp [w_is_pair, startD, isi]; exact ret_same (by simpa [isPr] using hq)
      | x :: y :: z :: r, ht, hq => simp [w_is_pair, startD, isi]; exact .inr ⟨by omega, ret_same (by simpa [isPr] using hq)⟩
      | [x, y], ht, hq =>
        obtain ⟨h1, h2⟩ := (by simpa using ht.1 : (tyName S x).isSome ∧ (tyName S y).isSome)
        obtain ⟨tx, h1⟩ := Option.isSome_iff_exists.mp h1
        obtain ⟨ty, h2⟩ := Option.isSome_iff_exists.mp h2
        have hno : (tx ≠ "int" ∨ ty ≠ "int") → Q (.bl false) S := fun h => by
          have : isPr (.tup [x, y]) = false := by
            cases x <;> cases y <;> first | rfl | (simp at h1 h2; subst h1 h2; simp at h)
          rwa [this] at hq
        simp [w_is_pair, startD, isi, sp_is_whole, jx0, jx1, h1, h2]
        by_cases ea : tx = "int"
        · obtain ⟨i, rfl⟩ := ty_int (ea ▸ h1)
          by_cases eb : ty = "int"
          · obtain ⟨j, rfl⟩ := ty_int (eb ▸ h2)
            simp [ea, eb]
            exact ret_same (by simpa [isPr] using hq)
          · simp [ea, eb]
            exact ret_same (hno (.inr eb))
        · simp [ea]
          exact ret_same (hno (.inl ea))
    · have : isPr d = false := by
        cases d with
        | tup ds => exact absurd (by simpa using ha.symm) e
        | _ => rfl
      rw [this] at hq
      simp [w_is_pair, startD, ha, isi, e]
      by_cases hb : a = "bool"
      · subst hb; exact ret_same hq
      · exact ret_same hq
  · exact h.elim
theorem neT {ρ : DEnv} {S : Store} {Q : PQ} {E : PX} {x : D} {xs : List D} {ps : List PyData} (h : DPys S (x :: xs) ps) (hs : SeqAt.shaped (.tuple ps) = true) (hq : Q (.bl true) S) : pNe (.tup (x :: xs)) (.tup []) ρ S Q E := by
  refine ⟨.tuple ps, .tuple [], .tup h, .tup .nil, hs, by decide +kernel, ?_⟩
  cases h with
  | cons h1 h2 => simpa [PyData.eqv, PyData.eqvAll] using hq
theorem tmL_ty {S : Store} {d : D} (h : tmL S d) : ∃ a, tyName S d = some a := by
  apply Option.isSome_iff_exists.mp
  cases d with
  | ref n => exact h.1
  | _ => exact h
theorem tmK_ty {S : Store} {d : D} (h : tmK S d) : ∃ a, tyName S d = some a := by
  apply Option.isSome_iff_exists.mp
  cases d with
  | ref n => exact h.1
  | _ => exact h
theorem ty_list {S : Store} {d : D} (h : tyName S d = some "list") : ∃ n xs, d = .ref n ∧ S[n]? = some (.lst xs) := by
  cases d with
  | ref n =>
    simp only [tyName] at h
    split at h
    · exact ⟨n, _, rfl, by assumption⟩
    · simp at h
    · simp at h
  | _ => simp [tyName] at h
theorem nolist {S : Store} {d : D} {a : String} (ha : tyName S d = some a) (e : a ≠ "list") : ∀ n xs, d = .ref n → S[n]? ≠ some (.lst xs) := by
  rintro n xs rfl h
  rw [e_ty5 h] at ha
  exact e (by simpa using ha.symm)
theorem ob_is_area : Ob n_is_area sp_is_area w_is_area := by
  intro ds S Q E hS hd h
  unfold sp_is_area at h
  split at h
  · rename_i d z
    obtain ⟨ht, hq⟩ := h
    obtain ⟨a, ha⟩ := tmL_ty ht
    by_cases e : a = "list"
    · subst e
      obtain ⟨n, xs, rfl, hn⟩ := ty_list ha
      have hx := ht.2 xs hn
      simp [w_is_area, startD, ha, isi, hn]
      by_cases hz : (xs.length : Int) = z
      · refine .inl ⟨hz, xs, hn, loop_list (S := S) (fun i ρ S' => S' = S ∧ (∀ x ∈ xs.take i, isPc x = true) ∧ ∃ o, ρ = [some (.ref n), some (.int z), o]) ⟨rfl, by simp, none, rfl⟩ (fun i ρ S' h => by rw [h.1]; exact hn) ?_ ?_⟩
        · rintro i x ρ S' N hi ⟨rfl, hall, o, rfl⟩ hN
          have hxt := hx x (List.mem_of_getElem? hi)
          have hno : isPc x = false → RetQ S'.length Q (.bl false) S' := fun h => by
            have : arB z S' (.ref n) = false := by
              simp only [arB, hn, Bool.and_eq_false_iff]
              right
              rw [List.all_eq_false]
              exact ⟨x, List.mem_of_getElem? hi, by simp [h]⟩
            rw [this] at hq
            exact ret_same hq
          have hyes : isPc x = true → N [some (.ref n), some (.int z), some x] S' := fun h => hN _ _ ⟨rfl, by
            intro y hy
            rw [List.take_add_one, hi] at hy
            rcases List.mem_append.mp hy with hy | hy
            · exact hall y hy
            · have : y = x := by simpa using hy
              rw [this]; exact h, _, rfl⟩
          simp [sp_is_pair, hxt]
          by_cases hp : isPr x = true
          · simp [hp]
            refine hyes ?_
            unfold isPr at hp
            split at hp
            · rfl
            · cases hp
          · have hp' : isPr x = false := by simpa using hp
            simp [hp']
            obtain ⟨b, hb⟩ := tmD_ty hxt
            by_cases eb : b = "tuple"
            · subst eb
              obtain ⟨ds, rfl⟩ : ∃ ds, x = .tup ds := by
                cases x with
                | tup ds => exact ⟨ds, rfl⟩
                | ref n =>
                  simp only [tyName] at hb
                  split at hb <;> simp at hb
                | _ => simp [tyName] at hb
              match ds with
              | [] => simp [isi]; exact hyes rfl
              | y :: ys =>
                obtain ⟨ps, h1, h2⟩ := hxt.2
                simp [isi]
                refine neT h1 h2 ?_
                refine .inr ⟨rfl, hno ?_⟩
                unfold isPc
                split
                · rename_i heq
                  rw [heq] at hp'; simp [isPr] at hp'
                · rename_i heq; cases heq
                · rfl
            · refine ⟨b, hb, ?_⟩
              simp [isi, eb]
              have hc : isPc x = false := by
                cases x with
                | tup ds => exact absurd (by simpa using hb.symm) eb
                | _ => rfl
              exact hno hc
        · rintro ρ S' ⟨rfl, hall, o, rfl⟩
          rw [List.take_length] at hall
          simp
          have : arB z S' (.ref n) = true := by
            simp only [arB, hn, Bool.and_eq_true, decide_eq_true_eq, List.all_eq_true]
            exact ⟨hz, hall⟩
          rw [this] at hq
          exact ret_same hq
      · refine .inr ⟨hz, ?_⟩
        have : arB z S (.ref n) = false := by simp [arB, hn, hz]
        rw [this] at hq
        exact ret_same hq
    · have : arB z S d = false := by
        unfold arB
        split
        · split
          · rename_i n _ xs hn; exact absurd hn (nolist ha e n xs rfl)
          · rfl
        · rfl
      rw [this] at hq
      simp [w_is_area, startD, ha, isi, e]
      exact ret_same hq
  · exact h.elim
theorem ob_is_sign : Ob n_is_sign sp_is_sign w_is_sign := by
  intro ds S Q E hS hd h
  unfold sp_is_sign at h
  split at h
  · rename_i t w s d
    obtain ⟨ht, hq⟩ := h
    obtain ⟨a, ha⟩ := tmL_ty ht
    by_cases e : a = "list"
    · subst e
      obtain ⟨n, xs, rfl, hn⟩ := ty_list ha
      have hx := ht.2 xs hn
      simp [w_is_sign, startD, ha, isi, hn]
      match xs, hn, hx with
      | [], hn, hx =>
        have : sgB t S (.ref n) = false := by simp [sgB, hn]
        rw [this] at hq
        simp; exact ret_same hq
      | x :: y :: r, hn, hx =>
        have : sgB t S (.ref n) = false := by simp [sgB, hn]
        rw [this] at hq
        simp
        exact ret_same hq
      | [x], hn, hx =>
        have hxt := hx x (by simp)
        simp [jx00, sp_is_pair, hxt]
        by_cases hp : isPr x = true
        · obtain ⟨i, j, rfl⟩ : ∃ i j, x = .tup [.int i, .int j] := by
            unfold isPr at hp
            split at hp
            · exact ⟨_, _, rfl⟩
            · cases hp
          have hq' : Q (.bl (decide (0 ≤ i ∧ i ≤ 1) && decide (0 ≤ j ∧ j ≤ t))) S := by simpa [sgB, hn] using hq
          simp [isPr, hn, jx00, jx0, jx1, ix0]
          by_cases h1 : 0 ≤ i <;> by_cases h2 : i ≤ 1 <;> by_cases h3 : 0 ≤ j <;> simp [h1, h2, h3] at hq' ⊢ <;> exact ret_same hq'
        · have hp' : isPr x = false := by simpa using hp
          have : sgB t S (.ref n) = false := by
            simp only [sgB, hn]
            split
            · rename_i heq
              simp at heq
              rw [heq] at hp'; simp [isPr] at hp'
            · rfl
          rw [this] at hq
          simp [hp']
          exact ret_same hq
    · have : sgB t S d = false := by
        unfold sgB
        split
        · split
          · rename_i n _ i j hn; exact absurd hn (nolist ha e n _ rfl)
          · rfl
        · rfl
      rw [this] at hq
      simp [w_is_sign, startD, ha, isi, e]
      exact ret_same hq
  · exact h.elim
theorem isPc_all {xs : List D} (h : xs.all isPc = true) : ∃ ps : List Pl, xs = ps.map ePl.enc := by
  induction xs with
  | nil => exact ⟨[], rfl⟩
  | cons x xs ih =>
    simp only [List.all_cons, Bool.and_eq_true] at h
    obtain ⟨ps, rfl⟩ := ih h.2
    have hx := h.1
    unfold isPc at hx
    split at hx
    · exact ⟨some (_, _) :: ps, rfl⟩
    · exact ⟨none :: ps, rfl⟩
    · cases hx
theorem arB_of {z : Int} {S : Store} {d : D} (h : arB z S d = true) : ∃ n ps, d = .ref n ∧ S[n]? = some (shp ps) ∧ (ps.length : Int) = z := by
  unfold arB at h
  split at h
  · rename_i n
    split at h
    · rename_i xs hn
      simp only [Bool.and_eq_true, decide_eq_true_eq] at h
      obtain ⟨ps, rfl⟩ := isPc_all h.2
      exact ⟨n, ps, rfl, hn, by simpa using h.1⟩
    · cases h
  · cases h
theorem arB_to {z : Int} {S : Store} {n : Nat} {ps : List Pl} (hn : S[n]? = some (shp ps)) (hz : (ps.length : Int) = z) : arB z S (.ref n) = true := by
  simp only [arB, hn, Bool.and_eq_true, decide_eq_true_eq, List.all_eq_true]
  refine ⟨by simpa using hz, fun x hx => ?_⟩
  obtain ⟨p, _, rfl⟩ := List.mem_map.mp hx
  cases p <;> rfl
theorem sgB_of {t : Int} {S : Store} {d : D} (h : sgB t S d = true) : ∃ n w k, d = .ref n ∧ S[n]? = some (shp [some (w, k)]) ∧ (0 ≤ w ∧ w ≤ 1) ∧ (0 ≤ k ∧ k ≤ t) := by
  unfold sgB at h
  split at h
  · split at h
    · simp only [Bool.and_eq_true, decide_eq_true_eq] at h
      exact ⟨_, _, _, rfl, by assumption, h.1, h.2⟩
    · cases h
  · cases h
theorem sgB_to {t : Int} {S : Store} {n : Nat} {w k : Int} (hn : S[n]? = some (shp [some (w, k)])) (h1 : 0 ≤ w ∧ w ≤ 1) (h2 : 0 ≤ k ∧ k ≤ t) : sgB t S (.ref n) = true := by
  simp only [sgB, hn, shp, List.map, ePl, Bool.and_eq_true, decide_eq_true_eq]
  exact ⟨h1, h2⟩
theorem dkB_to {t w wh : Int} {h : Nat} {S : Store} {n : Nat} {d : Dk} (hd : DkAt S n d) (f : DkF t w wh h d) : dkB t w S (.ref n) = true := by
  obtain ⟨i, j, l, h1, h2, h3, h4⟩ := hd
  obtain ⟨f1, f2, f3, f4, f5⟩ := f
  rw [f1] at h4
  simp only [dkB, h1, Bool.and_eq_true]
  refine ⟨sgB_to h4 (by omega) (by omega), arB_to h2 ?_, arB_to h3 ?_⟩
  · exact f4
  · exact f5
theorem dkB_of {t w : Int} {S : Store} {d : D} (ht : 0 ≤ t) (h : dkB t w S d = true) : ∃ n k wh hh, d = .ref n ∧ DkAt S n k ∧ DkF t w wh hh k := by
  unfold dkB at h
  split at h
  · split at h
    · rename_i n _ a b c hn
      simp only [Bool.and_eq_true] at h
      obtain ⟨i, p1, rfl, g1, z1⟩ := arB_of h.2.1
      obtain ⟨j, p2, rfl, g2, z2⟩ := arB_of h.2.2
      obtain ⟨l, wh, k, rfl, g3, hw, hk⟩ := sgB_of h.1
      refine ⟨n, ⟨p1, p2, [some (wh, k)]⟩, wh, k.toNat, rfl, ⟨i, j, l, hn, g1, g2, g3⟩, ?_, by omega, by omega, z1, z2⟩
      show [some (wh, k)] = [some (wh, ((k.toNat : Nat) : Int))]
      rw [Int.toNat_of_nonneg hk.1]
    · cases h
  · cases h
theorem mend_fn {ps qs rs : List Pl} (h : Mend ps qs) (h2 : Mend ps rs) : rs = qs := by
  rcases h with ⟨h, rfl⟩ | ⟨i, t, h, rfl⟩
  · exact mend_none h h2
  · exact mend_unique h h2
theorem ob_is_disk : Ob n_is_disk sp_is_disk w_is_disk := by
  intro ds S Q E hS hd h
  unfold sp_is_disk at h
  split at h
  · rename_i t w s d
    obtain ⟨hG, ht, hno, hyes⟩ := h
    have hG2 := hG
    obtain ⟨g1, g2, g3, g4, g5, g6⟩ := hG
    obtain ⟨a, ha⟩ := tmK_ty ht
    by_cases e : a = "list"
    · subst e
      obtain ⟨n, xs, rfl, hn⟩ := ty_list ha
      have hx := ht.2 xs hn
      simp [w_is_disk, startD, ha, isi, hn]
      match xs, hn, hx with
      | [], hn, hx => simp; exact ret_same (hno (by simp [dkB, hn]))
      | [x], hn, hx => simp; exact ret_same (hno (by simp [dkB, hn]))
      | [x, y], hn, hx => simp; exact ret_same (hno (by simp [dkB, hn]))
      | x :: y :: z :: u :: r, hn, hx =>
        simp
        rw [if_neg (by omega)]
        exact ret_same (hno (by simp [dkB, hn]))
      | [x, y, z], hn, hx =>
        have t1 := hx x (by simp)
        have t2 := hx y (by simp)
        have t3 := hx z (by simp)
        have hdk : dkB t w S (.ref n) = (sgB t S z && (arB (2 ^ t.toNat * w) S x && arB (2 ^ t.toNat * w) S y)) := by simp only [dkB, hn]
        simp [ix_three.1, ix_three.2.1, ix_three.2.2, sp_is_sign, t3]
        by_cases b3 : sgB t S z = true
        · by_cases b1 : arB (2 ^ t.toNat * w) S x = true
          · by_cases b2 : arB (2 ^ t.toNat * w) S y = true
            · obtain ⟨n', k, wh, h, he, hk, hf⟩ := dkB_of (t := t) (w := w) (S := S) (d := .ref n) g1 (by rw [hdk, b1, b2, b3]; rfl)
              cases he
              have hy := hyes n k wh h rfl hk hf
              have hk' := hk
              obtain ⟨i, j, l, p1, p2, p3, p4⟩ := hk
              rw [hn] at p1
              cases p1
              have hf' := hf
              obtain ⟨f1, f2, f3, f4, f5⟩ := hf
              have hh10 : h ≤ 4 := by omega
              have lsh : (shOn k w wh h).length ≤ 100000 := by
                have z1 : (szI w t.toNat) ≤ 1024 * 20 := by
                  have hp := pow10 t.toNat (by omega)
                  exact Int.mul_le_mul hp.2 g4 (by omega) (by omega)
                have : (shOn k w wh h).length ≤ (k.ar wh).length := by unfold shOn; rw [List.length_take]; omega
                have : ((k.ar wh).length : Int) = szI w t.toNat := by unfold Dk.ar; split <;> assumption
                omega
              simp [b3, b1, b2, ix0, sp_places_of, sp_is_area, t1, t2, hn, ix_three.1, ix_three.2.1, ix_three.2.2]
              refine ⟨by omega, ?_⟩
              refine ⟨k, wh, h, hk', f1, f2, ⟨by omega, by omega, g3⟩, ?_⟩
              have esh : ((if wh = 0 then k.a else k.b).take (2 ^ ((h : Int)).toNat * w).toNat) = shOn k w wh h := by
                unfold shOn Dk.ar
                rw [Int.toNat_natCast]
                rfl
              rw [esh]
              refine ⟨shOn k w wh h, by simp, lsh, fun qs hm => ?_⟩
              rw [f1] at p4
              have hq2 := hy qs hm
              by_cases hr : Rises (things qs)
              · simp [hr, hn, p4, sp_rows_of, sp_cap_of, ix_three.2.2, jx00, ePl, jx1]
                refine ⟨shOn k w wh h, by simp [shp], lsh, fun qs' hm' => ?_⟩
                have e2 := mend_fn hm hm'
                subst e2
                simp [List.getElem?_append_left, app_get hn, app_get p4, ix_three.2.2, jx00, jx1, ePl, shp]
                exact ⟨by omega, ret_pure hS (by simp only [Cl]) (by rw [decide_eq_true hr, Bool.true_and] at hq2; exact hq2)⟩
              · simp [hr]
                exact ret_pure hS (by simp only [Cl]) (by simpa [hr] using hq2)
            · simp [b3, b1, b2, ix0, sp_places_of, sp_is_area, t1, t2, hn, ix_three.1, ix_three.2.1, ix_three.2.2]
              exact ⟨by omega, ret_same (hno (by rw [hdk]; simp [b2]))⟩
          · simp [b3, b1, ix0, sp_places_of, sp_is_area, t1, t2, hn, ix_three.1, ix_three.2.1, ix_three.2.2]
            exact ⟨by omega, ret_same (hno (by rw [hdk]; simp [b1]))⟩
        · simp [b3]
          exact ret_same (hno (by rw [hdk]; simp [b3]))
    · have hf : dkB t w S d = false := by
        unfold dkB
        split
        · split
          · rename_i n _ i j k hn; exact absurd hn (nolist ha e n _ rfl)
          · rfl
        · rfl
      simp [w_is_disk, startD, ha, isi, e]
      exact ret_same (hno hf)
  · exact h.elim
/-! ### a keeper's fields -/
abbrev Cnt := Int × Int × Int × Int × Int
def kF2 (t w s : Int) (q : Nat) : List (Str × D) := [("bounds", bnd t w s), ("slabs", .ref q)]
def kFs (t w s : Int) (q : Nat) (c : Cnt) : List (Str × D) := [("bounds", bnd t w s), ("slabs", .ref q), ("many_puts", .int c.1), ("many_moves", .int c.2.1), ("many_laid", .int c.2.2.1), ("first_excess", .int c.2.2.2.1), ("first_over", .int c.2.2.2.2)]
def kMeths : List Str := ["shelf", "come_up", "excess", "over", "write_all", "put", "take", "get", "rows", "disk", "counts"]
structure KF (t w s : Int) (q : Nat) (fs : List (Str × D)) : Prop where
  b : fs.lookup ("bounds" : Str) = some (bnd t w s)
  s : fs.lookup ("slabs" : Str) = some (.ref q)
  m : ∀ x ∈ kMeths, fs.lookup x = none
theorem lookup_fputD (f g : Str) (d : D) : ∀ fs : List (Str × D), (fputD f d fs).lookup g = if g = f then some d else fs.lookup g
  | [] => by
    show List.lookup g [(f, d)] = _
    by_cases h : g = f
    · have hb : (g == f) = true := beq_iff_eq.mpr h
      simp only [List.lookup, hb, if_pos h]
    · have hb : (g == f) = false := beq_eq_false_iff_ne.mpr h
      simp only [List.lookup, hb, if_neg h]
  | (k, x) :: r => by
    show List.lookup g (if k = f then (k, d) :: r else (k, x) :: fputD f d r) = _
    by_cases hk : k = f
    · subst hk
      rw [if_pos rfl]
      by_cases h : g = k
      · have hb : (g == k) = true := beq_iff_eq.mpr h
        simp only [List.lookup, hb, if_pos h]
      · have hb : (g == k) = false := beq_eq_false_iff_ne.mpr h
        simp only [List.lookup, hb, if_neg h]
    · rw [if_neg hk]
      by_cases h : g = k
      · have hb : (g == k) = true := beq_iff_eq.mpr h
        have hf : ¬ g = f := fun e => hk (h ▸ e)
        simp only [List.lookup, hb, if_neg hf]
      · have hb : (g == k) = false := beq_eq_false_iff_ne.mpr h
        simp only [List.lookup, hb]
        exact lookup_fputD f g d r
theorem len_fputD (f : Str) (d : D) : ∀ fs : List (Str × D), (fputD f d fs).length ≤ fs.length + 1
  | [] => by simp [fputD]
  | (k, x) :: r => by
    show (if k = f then (k, d) :: r else (k, x) :: fputD f d r).length ≤ _
    split
    · simp
    · have := len_fputD f d r
      simp; omega
theorem KF.put {t w s : Int} {q : Nat} {fs : List (Str × D)} {f : Str} {d : D} (h : KF t w s q fs) (h1 : ¬ ("bounds" : Str) = f) (h2 : ¬ ("slabs" : Str) = f) (h3 : ∀ x ∈ kMeths, ¬ x = f) : KF t w s q (fputD f d fs) :=
  ⟨by rw [lookup_fputD, if_neg h1]; exact h.b, by rw [lookup_fputD, if_neg h2]; exact h.s, fun x hx => by rw [lookup_fputD, if_neg (h3 x hx)]; exact h.m x hx⟩
theorem KF.slabs {t w s : Int} {q q' : Nat} {fs : List (Str × D)} (h : KF t w s q fs) : KF t w s q' (fputD "slabs" (.ref q') fs) :=
  ⟨by rw [lookup_fputD, if_neg (by decide +kernel)]; exact h.b, by rw [lookup_fputD, if_pos rfl], fun x hx => by rw [lookup_fputD, if_neg (by revert x; decide +kernel)]; exact h.m x hx⟩
theorem lk_ne {f g : Str} {d : D} {r : List (Str × D)} (h : (f == g) = false) : List.lookup f ((g, d) :: r) = List.lookup f r := by rw [List.lookup_cons, h]
theorem lk_eq {f : Str} {d : D} {r : List (Str × D)} : List.lookup f ((f, d) :: r) = some d := by rw [List.lookup_cons, beq_self_eq_true]
theorem kF2_ok {t w s : Int} {q : Nat} : KF t w s q (kF2 t w s q) := by
  refine ⟨lk_eq, (lk_ne (by decide +kernel)).trans lk_eq, fun x hx => ?_⟩
  unfold kF2
  have : ∀ x ∈ kMeths, (x == ("bounds" : Str)) = false ∧ (x == ("slabs" : Str)) = false := by decide +kernel
  obtain ⟨h1, h2⟩ := this x hx
  rw [lk_ne h1, lk_ne h2]; rfl
theorem kFs_no {t w s : Int} {q : Nat} {c : Cnt} {x : Str} (hx : x ∈ kMeths) : (kFs t w s q c).lookup x = none := by
  have : ∀ x ∈ kMeths, (x == ("bounds" : Str)) = false ∧ (x == ("slabs" : Str)) = false ∧ (x == ("many_puts" : Str)) = false ∧ (x == ("many_moves" : Str)) = false ∧ (x == ("many_laid" : Str)) = false ∧ (x == ("first_excess" : Str)) = false ∧ (x == ("first_over" : Str)) = false := by decide +kernel
  obtain ⟨h1, h2, h3, h4, h5, h6, h7⟩ := this x hx
  unfold kFs
  rw [lk_ne h1, lk_ne h2, lk_ne h3, lk_ne h4, lk_ne h5, lk_ne h6, lk_ne h7]; rfl
section
variable {t w s : Int} {q : Nat} {c : Cnt}
theorem kFs_ok : KF t w s q (kFs t w s q c) := ⟨lk_eq, (lk_ne (by decide +kernel)).trans lk_eq, fun x hx => kFs_no hx⟩
theorem kl_puts : (kFs t w s q c).lookup ("many_puts" : Str) = some (.int c.1) := (lk_ne (by decide +kernel)).trans ((lk_ne (by decide +kernel)).trans lk_eq)
theorem kl_moves : (kFs t w s q c).lookup ("many_moves" : Str) = some (.int c.2.1) := (lk_ne (by decide +kernel)).trans ((lk_ne (by decide +kernel)).trans ((lk_ne (by decide +kernel)).trans lk_eq))
theorem kl_laid : (kFs t w s q c).lookup ("many_laid" : Str) = some (.int c.2.2.1) := (lk_ne (by decide +kernel)).trans ((lk_ne (by decide +kernel)).trans ((lk_ne (by decide +kernel)).trans ((lk_ne (by decide +kernel)).trans lk_eq)))
theorem kl_fe : (kFs t w s q c).lookup ("first_excess" : Str) = some (.int c.2.2.2.1) := (lk_ne (by decide +kernel)).trans ((lk_ne (by decide +kernel)).trans ((lk_ne (by decide +kernel)).trans ((lk_ne (by decide +kernel)).trans ((lk_ne (by decide +kernel)).trans lk_eq))))
theorem kl_fo : (kFs t w s q c).lookup ("first_over" : Str) = some (.int c.2.2.2.2) := (lk_ne (by decide +kernel)).trans ((lk_ne (by decide +kernel)).trans ((lk_ne (by decide +kernel)).trans ((lk_ne (by decide +kernel)).trans ((lk_ne (by decide +kernel)).trans ((lk_ne (by decide +kernel)).trans lk_eq)))))
theorem fp_ne {f g : Str} {d e : D} {r : List (Str × D)} (h : ¬ g = f) : fputD f d ((g, e) :: r) = (g, e) :: fputD f d r := by
  show (if g = f then (g, d) :: r else (g, e) :: fputD f d r) = _
  rw [if_neg h]
theorem fp_eq {f : Str} {d e : D} {r : List (Str × D)} : fputD f d ((f, e) :: r) = (f, d) :: r := by
  show (if f = f then (f, d) :: r else (f, e) :: fputD f d r) = _
  rw [if_pos rfl]
theorem fp_nil {f : Str} {d : D} : fputD f d [] = [(f, d)] := rfl
theorem fs_b : fputD "bounds" (bnd t w s) [] = ([("bounds", bnd t w s)] : List (Str × D)) := rfl
theorem fs_2 : fputD "slabs" (.ref q) (fputD "bounds" (bnd t w s) []) = kF2 t w s q := by
  rw [fs_b, fp_ne (by decide +kernel), fp_nil]; rfl
theorem fs_slabs {q' : Nat} : fputD "slabs" (.ref q') (kFs t w s q c) = kFs t w s q' c := by
  unfold kFs
  rw [fp_ne (by decide +kernel), fp_eq]
theorem fs_puts {x : Int} : fputD "many_puts" (.int x) (kFs t w s q c) = kFs t w s q (x, c.2) := by
  unfold kFs
  rw [fp_ne (by decide +kernel), fp_ne (by decide +kernel), fp_eq]
theorem fs_moves {x : Int} : fputD "many_moves" (.int x) (kFs t w s q c) = kFs t w s q (c.1, x, c.2.2) := by
  unfold kFs
  rw [fp_ne (by decide +kernel), fp_ne (by decide +kernel), fp_ne (by decide +kernel), fp_eq]
theorem fs_laid {x : Int} : fputD "many_laid" (.int x) (kFs t w s q c) = kFs t w s q (c.1, c.2.1, x, c.2.2.2) := by
  unfold kFs
  rw [fp_ne (by decide +kernel), fp_ne (by decide +kernel), fp_ne (by decide +kernel), fp_ne (by decide +kernel), fp_eq]
theorem fs_fe {x : Int} : fputD "first_excess" (.int x) (kFs t w s q c) = kFs t w s q (c.1, c.2.1, c.2.2.1, x, c.2.2.2.2) := by
  unfold kFs
  rw [fp_ne (by decide +kernel), fp_ne (by decide +kernel), fp_ne (by decide +kernel), fp_ne (by decide +kernel), fp_ne (by decide +kernel), fp_eq]
theorem fs_fo {x : Int} : fputD "first_over" (.int x) (kFs t w s q c) = kFs t w s q (c.1, c.2.1, c.2.2.1, c.2.2.2.1, x) := by
  unfold kFs
  rw [fp_ne (by decide +kernel), fp_ne (by decide +kernel), fp_ne (by decide +kernel), fp_ne (by decide +kernel), fp_ne (by decide +kernel), fp_ne (by decide +kernel), fp_eq]
/-- what come_up puts -/
def put5 (x y : Int) (fs : List (Str × D)) : List (Str × D) := fputD "first_over" (.int y) (fputD "first_excess" (.int x) (fputD "many_laid" (.int 0) (fputD "many_moves" (.int 0) (fputD "many_puts" (.int 0) fs))))
theorem put5_s {x y : Int} : put5 x y (kFs t w s q c) = kFs t w s q (0, 0, 0, x, y) := by
  unfold put5
  rw [fs_puts, fs_moves, fs_laid, fs_fe, fs_fo]
theorem put5_2 {x y : Int} : put5 x y (kF2 t w s q) = kFs t w s q (0, 0, 0, x, y) := by
  unfold put5 kF2 kFs
  repeat (first | rw [fp_ne (by decide +kernel)] | rw [fp_nil])
end
/-! ### what a call leaves as it was -/
def Kps (S S' : Store) (ex : List Nat) : Prop := S.length ≤ S'.length ∧ ∀ i, i < S.length → i ∉ ex → S'[i]? = S[i]?
theorem Kps.refl {S : Store} {ex : List Nat} : Kps S S ex := ⟨Nat.le_refl _, fun _ _ _ => rfl⟩
theorem Kps.app {S G : Store} {ex : List Nat} : Kps S (S ++ G) ex := ⟨by simp, fun i hi _ => List.getElem?_append_left hi⟩
theorem Kps.trans {S S1 S2 : Store} {ex ex' : List Nat} (h : Kps S S1 ex) (h' : Kps S1 S2 ex') (hx : ∀ x ∈ ex', x ∈ ex ∨ S.length ≤ x) : Kps S S2 ex :=
  ⟨Nat.le_trans h.1 h'.1, fun i hi hn => (h'.2 i (Nat.lt_of_lt_of_le hi h.1) fun hm => (hx i hm).elim hn (Nat.not_le.mpr hi)).trans (h.2 i hi hn)⟩
theorem Kps.set {S : Store} {ex : List Nat} {n : Nat} {c : Cell} (h : n ∈ ex ∨ S.length ≤ n) : Kps S (S.set n c) ex :=
  ⟨by simp, fun i hi hn => by
    rw [List.getElem?_set_ne]
    rintro rfl
    rcases h with h | h
    · exact hn h
    · omega⟩
theorem Kps.get {S S' : Store} {ex : List Nat} (h : Kps S S' ex) {i : Nat} {c : Cell} (hi : S[i]? = some c) (hn : i ∉ ex) : S'[i]? = some c := (h.2 i (List.getElem?_eq_some_iff.mp hi).1 hn).trans hi
theorem Kps.mono {S S' : Store} {ex ex' : List Nat} (h : Kps S S' ex) (hx : ∀ x ∈ ex, x ∈ ex' ∨ S.length ≤ x) : Kps S S' ex' := ⟨h.1, fun i hi hn => h.2 i hi fun hm => (hx i hm).elim hn (Nat.not_le.mpr hi)⟩
/-- a keeper stands at p; fp: the places that are its own -/
def KpAt (S : Store) (p : Nat) (fp : List Nat) (t w s : Int) (d : Dk) (c : Cnt) : Prop := ∃ q i j l, fp = [p, q, i, j, l] ∧ fp.Nodup ∧ S[p]? = some (.ins "Keeper" (kFs t w s q c)) ∧ S[q]? = some (.lst [.ref i, .ref j, .ref l]) ∧ S[i]? = some (shp d.a) ∧ S[j]? = some (shp d.b) ∧ S[l]? = some (shp d.c)
theorem KpAt.kps {S S' : Store} {p : Nat} {fp ex : List Nat} {t w s : Int} {d : Dk} {c : Cnt} (h : KpAt S p fp t w s d c) (k : Kps S S' ex) (hx : ∀ x ∈ fp, x ∉ ex) : KpAt S' p fp t w s d c := by
  obtain ⟨q, i, j, l, rfl, nd, h1, h2, h3, h4, h5⟩ := h
  exact ⟨q, i, j, l, rfl, nd, k.get h1 (hx _ (by simp)), k.get h2 (hx _ (by simp)), k.get h3 (hx _ (by simp)), k.get h4 (hx _ (by simp)), k.get h5 (hx _ (by simp))⟩
theorem KpAt.app {S G : Store} {p : Nat} {fp : List Nat} {t w s : Int} {d : Dk} {c : Cnt} (h : KpAt S p fp t w s d c) : KpAt (S ++ G) p fp t w s d c := h.kps (ex := []) Kps.app (by simp)
theorem KpAt.lt {S : Store} {p : Nat} {fp : List Nat} {t w s : Int} {d : Dk} {c : Cnt} (h : KpAt S p fp t w s d c) : ∀ x ∈ fp, x < S.length := by
  obtain ⟨q, i, j, l, rfl, nd, h1, h2, h3, h4, h5⟩ := h
  intro x hx
  simp only [List.mem_cons, List.not_mem_nil, or_false] at hx
  rcases hx with rfl | rfl | rfl | rfl | rfl
  · exact (List.getElem?_eq_some_iff.mp h1).1
  · exact (List.getElem?_eq_some_iff.mp h2).1
  · exact (List.getElem?_eq_some_iff.mp h3).1
  · exact (List.getElem?_eq_some_iff.mp h4).1
  · exact (List.getElem?_eq_some_iff.mp h5).1
def upC (w s wh : Int) (h : Nat) (d : Dk) : Cnt := (0, 0, 0, excessI (shOn d w wh h) w s h, overI w s h (things (shOn d w wh h)).length)
/-- a disk without the farther one of a thing that lies twice -/
def MendD (w wh : Int) (h : Nat) (d d' : Dk) : Prop := ∃ r, Sec (shOn d w wh h) r ∧ d' = match r with | none => d | some i => d.put (wh, ((i : Nat) : Int), none)
def brk (mo : D) (n : Nat) : Option Nat := match mo with
  | .int m => if m < (n : Int) then some m.toNat else none
  | _ => none
def moOk (mo : D) : Prop := mo = .non ∨ ∃ m : Int, mo = .int m ∧ 0 ≤ m
/-- the places of the sign's writes -/
def sgn (ws : List DW) : List Nat := (List.range ws.length).filter fun k => decide ((ws[k]?).map (·.1) = some 2)
def beh (ws : List DW) : Int := match sgn ws with | [] => 0 | k :: _ => (k : Int) + 1
def cntPut (w wh : Int) (h : Nat) (d : Dk) (key : Int) (ws : List DW) (c : Cnt) : Cnt :=
  if placeN (shOn d w wh h) key = none then (c.1 + 1, c.2.1 + ((ws.length : Int) - beh ws) / 2, c.2.2.1 + (if sgn ws = [] then 0 else ((things (shOn d w wh h)).length : Int)), c.2.2.2) else c
/-! ### promises -/
def sp_Keeper_shelf : SPf
  | [.ref p], S, Q, _ => ∃ fs t w s q d wh h, S[p]? = some (.ins "Keeper" fs) ∧ KF t w s q fs ∧ DkAt S q d ∧ DkF t w wh h d ∧ Good t w s ∧ Q (.ref S.length) (S ++ [shp (shOn d w wh h)])
  | _, _, _, _ => False
def sp_Keeper_excess : SPf
  | [.ref p], S, Q, _ => ∃ fs t w s q d wh h, S[p]? = some (.ins "Keeper" fs) ∧ KF t w s q fs ∧ DkAt S q d ∧ DkF t w wh h d ∧ Good t w s ∧ Q (.int (excessI (shOn d w wh h) w s h)) S
  | _, _, _, _ => False
def sp_Keeper_over : SPf
  | [.ref p], S, Q, _ => ∃ fs t w s q d wh h, S[p]? = some (.ins "Keeper" fs) ∧ KF t w s q fs ∧ DkAt S q d ∧ DkF t w wh h d ∧ Good t w s ∧ Q (.int (overI w s h (things (shOn d w wh h)).length)) S
  | _, _, _, _ => False
def sp_Keeper_come_up : SPf
  | [.ref p], S, Q, _ => ∃ fs t w s q i j l d wh h, S[p]? = some (.ins "Keeper" fs) ∧ (fs = kF2 t w s q ∨ ∃ c, fs = kFs t w s q c) ∧ [p, q, i, j, l].Nodup ∧ S[q]? = some (.lst [.ref i, .ref j, .ref l]) ∧ S[i]? = some (shp d.a) ∧ S[j]? = some (shp d.b) ∧ S[l]? = some (shp d.c) ∧ DkF t w wh h d ∧ Good t w s ∧
    ∀ d' S', MendD w wh h d d' → Kps S S' [p, q, i, j, l] → KpAt S' p [p, q, i, j, l] t w s d' (upC w s wh h d') → Q .non S'
  | _, _, _, _ => False
def sp_Keeper_init : SPf
  | [.ref p, b, dk], S, Q, E => S[p]? = some (.ins "Keeper" []) ∧ tyOk S b ∧ (isB b = false → E "BadBounds" S) ∧ ∀ t w s, b = bnd t w s → Good t w s → tmK S dk ∧ (dkB t w S dk = false → E "BadDisk" S) ∧
    ∀ n d wh h, dk = .ref n → n ≠ p → DkAt S n d → DkF t w wh h d → ∀ qs, Mend (shOn d w wh h) qs → if Rises (things qs) ∧ ((things qs).length : Int) ≤ capI w s h then ∀ d' fp S', MendD w wh h d d' → Kps S S' [p] → (∀ x ∈ fp, x = p ∨ S.length ≤ x) → KpAt S' p fp t w s d' (upC w s wh h d') → Q .non S' else E "BadDisk" S
  | _, _, _, _ => False
def sp_Keeper_write_all : SPf
  | [.ref p, .ref m, mo], S, Q, _ => ∃ fp t w s d c ws, KpAt S p fp t w s d c ∧ m ∉ fp ∧ S[m]? = some (dwp ws) ∧ (∀ x ∈ ws, OkD d x) ∧ moOk mo ∧ Good t w s ∧
    match brk mo ws.length with
    | none => ∀ S' fp', Kps S S' fp → (∀ x ∈ fp', x ∈ fp ∨ S.length ≤ x) → KpAt S' p fp' t w s (d.puts ws) c → Q (.bl true) S'
    | some k => ∃ wh h, DkF t w wh h (d.puts (ws.take k)) ∧ ∀ d' S' fp', MendD w wh h (d.puts (ws.take k)) d' → Kps S S' fp → (∀ x ∈ fp', x ∈ fp ∨ S.length ≤ x) → KpAt S' p fp' t w s d' (upC w s wh h d') → Q (.bl false) S'
  | _, _, _, _ => False
def sp_Keeper_put : SPf
  | [.ref p, .int key, .int am, mo], S, Q, E => ∃ fp t w s d wh h c, KpAt S p fp t w s d c ∧ DkOn d t w s wh h ∧ moOk mo ∧
    match putDk t w s d wh h key am with
    | none => E "Full" S
    | some ws => (∀ x ∈ ws, OkD d x) ∧ match brk mo ws.length with
      | none => ∀ S' fp', Kps S S' fp → (∀ x ∈ fp', x ∈ fp ∨ S.length ≤ x) → KpAt S' p fp' t w s (d.puts ws) (cntPut w wh h d key ws c) → Q (.int ws.length) S'
      | some k => ∃ wh' h', DkF t w wh' h' (d.puts (ws.take k)) ∧ ∀ d' S' fp', MendD w wh' h' (d.puts (ws.take k)) d' → Kps S S' fp → (∀ x ∈ fp', x ∈ fp ∨ S.length ≤ x) → KpAt S' p fp' t w s d' (upC w s wh' h' d') → Q mo S'
  | _, _, _, _ => False
def sp_Keeper_take : SPf
  | [.ref p, .int key, mo], S, Q, E => ∃ fp t w s d wh h c, KpAt S p fp t w s d c ∧ DkOn d t w s wh h ∧ moOk mo ∧
    match placeN (shOn d w wh h) key with
    | none => E "NoKey" S
    | some n => OkD d (wh, ((n : Nat) : Int), none) ∧ match brk mo 1 with
      | none => ∀ S' fp', Kps S S' fp → (∀ x ∈ fp', x ∈ fp ∨ S.length ≤ x) → KpAt S' p fp' t w s (d.put (wh, ((n : Nat) : Int), none)) c → Q (.int 1) S'
      | some k => ∀ d' S' fp', MendD w wh h d d' → Kps S S' fp → (∀ x ∈ fp', x ∈ fp ∨ S.length ≤ x) → KpAt S' p fp' t w s d' (upC w s wh h d') → Q mo S'
  | _, _, _, _ => False
def sp_Keeper_get : SPf
  | [.ref p, .int key], S, Q, _ => ∃ fp t w s d wh h c, KpAt S p fp t w s d c ∧ DkF t w wh h d ∧ Good t w s ∧ match placeN (shOn d w wh h) key with
    | none => Q .non S
    | some n => ∀ a : Th, (shOn d w wh h)[n]? = some (some a) → Q (.int a.2) S
  | _, _, _, _ => False
def sp_Keeper_rows : SPf
  | [.ref p], S, Q, _ => ∃ fp t w s d wh h c, KpAt S p fp t w s d c ∧ DkF t w wh h d ∧ Good t w s ∧ ∀ qs, Mend (shOn d w wh h) qs → Q (.ref S.length) (S ++ [thp (things qs)])
  | _, _, _, _ => False
def sp_Keeper_disk : SPf
  | [.ref p], S, Q, _ => ∃ fp t w s d c, KpAt S p fp t w s d c ∧ Q (.ref (S.length + 3)) (S ++ dkC S.length d)
  | _, _, _, _ => False
def sp_Keeper_counts : SPf
  | [.ref p], S, Q, _ => ∃ fp t w s d c, KpAt S p fp t w s d c ∧ Q (.tup [.int c.1, .int c.2.1, .int c.2.2.1, .int c.2.2.2.1, .int c.2.2.2.2]) S
  | _, _, _, _ => False
theorem len_Keeper_shelf : ∀ ds S Q E, sp_Keeper_shelf ds S Q E → ds.length = 1 := by
  intro ds S Q E h; unfold sp_Keeper_shelf at h; split at h <;> first | rfl | exact h.elim
theorem len_Keeper_excess : ∀ ds S Q E, sp_Keeper_excess ds S Q E → ds.length = 1 := by
  intro ds S Q E h; unfold sp_Keeper_excess at h; split at h <;> first | rfl | exact h.elim
theorem len_Keeper_over : ∀ ds S Q E, sp_Keeper_over ds S Q E → ds.length = 1 := by
  intro ds S Q E h; unfold sp_Keeper_over at h; split at h <;> first | rfl | exact h.elim
theorem len_Keeper_come_up : ∀ ds S Q E, sp_Keeper_come_up ds S Q E → ds.length = 1 := by
  intro ds S Q E h; unfold sp_Keeper_come_up at h; split at h <;> first | rfl | exact h.elim
theorem len_Keeper_init : ∀ ds S Q E, sp_Keeper_init ds S Q E → ds.length = 3 := by
  intro ds S Q E h; unfold sp_Keeper_init at h; split at h <;> first | rfl | exact h.elim
theorem len_Keeper_write_all : ∀ ds S Q E, sp_Keeper_write_all ds S Q E → ds.length = 3 := by
  intro ds S Q E h; unfold sp_Keeper_write_all at h; split at h <;> first | rfl | exact h.elim
theorem len_Keeper_put : ∀ ds S Q E, sp_Keeper_put ds S Q E → ds.length = 4 := by
  intro ds S Q E h; unfold sp_Keeper_put at h; split at h <;> first | rfl | exact h.elim
theorem len_Keeper_take : ∀ ds S Q E, sp_Keeper_take ds S Q E → ds.length = 3 := by
  intro ds S Q E h; unfold sp_Keeper_take at h; split at h <;> first | rfl | exact h.elim
theorem len_Keeper_get : ∀ ds S Q E, sp_Keeper_get ds S Q E → ds.length = 2 := by
  intro ds S Q E h; unfold sp_Keeper_get at h; split at h <;> first | rfl | exact h.elim
theorem len_Keeper_rows : ∀ ds S Q E, sp_Keeper_rows ds S Q E → ds.length = 1 := by
  intro ds S Q E h; unfold sp_Keeper_rows at h; split at h <;> first | rfl | exact h.elim
theorem len_Keeper_disk : ∀ ds S Q E, sp_Keeper_disk ds S Q E → ds.length = 1 := by
  intro ds S Q E h; unfold sp_Keeper_disk at h; split at h <;> first | rfl | exact h.elim
theorem len_Keeper_counts : ∀ ds S Q E, sp_Keeper_counts ds S Q E → ds.length = 1 := by
  intro ds S Q E h; unfold sp_Keeper_counts at h; split at h <;> first | rfl | exact h.elim
abbrev n_Keeper_init : List Str := ["self", "bounds", "disk"]
def w_Keeper_init : WS :=
  wsSeq (wsIf (wNot (wCall sp_is_bounds [wVar 1] [])) (wsRaise "BadBounds") (wsNil)) (wsSeq (wsIf (wNot (wCall sp_is_disk [wVar 1, wVar 2] [])) (wsRaise "BadDisk") (wsNil)) (wsSeq (wsFld "Keeper" "bounds" (wVar 0) (wVar 1)) (wsSeq (wsFld "Keeper" "slabs" (wVar 0) (wCall sp_written [wVar 2, wLst []] [])) (wsExpr (wMeth "Keeper" "come_up" sp_Keeper_come_up (wVar 0) [] [])))))

abbrev n_Keeper_shelf : List Str := ["self"]
def w_Keeper_shelf : WS :=
  wsRet (wCall sp_shelf_on [wOp1 (pFld "Keeper" "bounds") (wVar 0), wOp1 (pFld "Keeper" "slabs") (wVar 0)] [])

abbrev n_Keeper_come_up : List Str := ["self", "place"]
def w_Keeper_come_up : WS :=
  wsSeq (wsSet 1 (wCall sp_second_of [wMeth "Keeper" "shelf" sp_Keeper_shelf (wVar 0) [] []] [])) (wsSeq (wsIf (wOp1 pNotN (wVar 1)) (wsSub (wOp pIx (wOp1 (pFld "Keeper" "slabs") (wVar 0)) (wOp pIx (wOp pIx (wOp pIx (wOp1 (pFld "Keeper" "slabs") (wVar 0)) (ret (.int 2))) (ret (.int 0))) (ret (.int 0)))) (wVar 1) (wTup [])) (wsNil)) (wsSeq (wsFld "Keeper" "many_puts" (wVar 0) (ret (.int 0))) (wsSeq (wsFld "Keeper" "many_moves" (wVar 0) (ret (.int 0))) (wsSeq (wsFld "Keeper" "many_laid" (wVar 0) (ret (.int 0))) (wsSeq (wsFld "Keeper" "first_excess" (wVar 0) (wMeth "Keeper" "excess" sp_Keeper_excess (wVar 0) [] [])) (wsFld "Keeper" "first_over" (wVar 0) (wMeth "Keeper" "over" sp_Keeper_over (wVar 0) [] [])))))))

abbrev n_Keeper_excess : List Str := ["self"]
def w_Keeper_excess : WS :=
  wsRet (wCall sp_excess_of [wOp1 (pFld "Keeper" "bounds") (wVar 0), wOp pIx (wOp pIx (wOp pIx (wOp1 (pFld "Keeper" "slabs") (wVar 0)) (ret (.int 2))) (ret (.int 0))) (ret (.int 1)), wMeth "Keeper" "shelf" sp_Keeper_shelf (wVar 0) [] []] [])

abbrev n_Keeper_over : List Str := ["self"]
def w_Keeper_over : WS :=
  wsRet (wCall sp_over_of [wOp1 (pFld "Keeper" "bounds") (wVar 0), wOp pIx (wOp pIx (wOp pIx (wOp1 (pFld "Keeper" "slabs") (wVar 0)) (ret (.int 2))) (ret (.int 0))) (ret (.int 1)), wMeth "Keeper" "shelf" sp_Keeper_shelf (wVar 0) [] []] [])

abbrev n_Keeper_write_all : List Str := ["self", "writes", "most"]
def w_Keeper_write_all : WS :=
  wsSeq (wsIf (wOr (wOp1 pIsN (wVar 2)) (wOp pGe (wVar 2) (wB bLen [wVar 1]))) (wsSeq (wsFld "Keeper" "slabs" (wVar 0) (wCall sp_written [wOp1 (pFld "Keeper" "slabs") (wVar 0), wVar 1] [])) (wsRet (ret (.bl true)))) (wsNil)) (wsSeq (wsFld "Keeper" "slabs" (wVar 0) (wCall sp_written [wOp1 (pFld "Keeper" "slabs") (wVar 0), wSl (wVar 1) none (some (wVar 2))] [])) (wsSeq (wsExpr (wMeth "Keeper" "come_up" sp_Keeper_come_up (wVar 0) [] [])) (wsRet (ret (.bl false)))))

abbrev n_Keeper_put : List Str := ["self", "key", "amount", "most", "writes", "shelf", "fresh", "signs", "k", "behind"]
def w_Keeper_put : WS :=
  wsSeq (wsSet 4 (wCall sp_disk_put [wOp1 (pFld "Keeper" "bounds") (wVar 0), wOp1 (pFld "Keeper" "slabs") (wVar 0), wVar 1, wVar 2] [])) (wsSeq (wsSet 5 (wMeth "Keeper" "shelf" sp_Keeper_shelf (wVar 0) [] [])) (wsSeq (wsSet 6 (wOp1 pIsN (wCall sp_place_of [wVar 5, wVar 1] []))) (wsSeq (wsSet 7 (wCompR1 [8] (tN 8) (wB bLen [wVar 4]) (wOp pEq (wOp pIx (wOp pIx (wVar 4) (wVar 8)) (ret (.int 0))) (ret (.int 2))) (wVar 8))) (wsSeq (wsIf (wNot (wMeth "Keeper" "write_all" sp_Keeper_write_all (wVar 0) [wVar 4, wVar 3] [])) (wsRet (wVar 3)) (wsNil)) (wsSeq (wsIf (wVar 6) (wsSeq (wsFld "Keeper" "many_puts" (wVar 0) (wOp pAdd (wOp1 (pFld "Keeper" "many_puts") (wVar 0)) (ret (.int 1)))) (wsSeq (wsSet 9 (ret (.int 0))) (wsSeq (wsIf (wOp pNe (wVar 7) (wLst [])) (wsSeq (wsSet 9 (wOp pAdd (wOp pIx (wVar 7) (ret (.int 0))) (ret (.int 1)))) (wsFld "Keeper" "many_laid" (wVar 0) (wOp pAdd (wOp1 (pFld "Keeper" "many_laid") (wVar 0)) (wB bLen [wCall sp_rows_of [wVar 5] []])))) (wsNil)) (wsFld "Keeper" "many_moves" (wVar 0) (wOp pAdd (wOp1 (pFld "Keeper" "many_moves") (wVar 0)) (wOp pDiv (wOp pSub (wB bLen [wVar 4]) (wVar 9)) (ret (.int 2)))))))) (wsNil)) (wsRet (wB bLen [wVar 4])))))))

abbrev n_Keeper_take : List Str := ["self", "key", "most", "writes"]
def w_Keeper_take : WS :=
  wsSeq (wsSet 3 (wCall sp_disk_take [wOp1 (pFld "Keeper" "bounds") (wVar 0), wOp1 (pFld "Keeper" "slabs") (wVar 0), wVar 1] [])) (wsSeq (wsIf (wNot (wMeth "Keeper" "write_all" sp_Keeper_write_all (wVar 0) [wVar 3, wVar 2] [])) (wsRet (wVar 2)) (wsNil)) (wsRet (wB bLen [wVar 3])))

abbrev n_Keeper_get : List Str := ["self", "key", "shelf", "place"]
def w_Keeper_get : WS :=
  wsSeq (wsSet 2 (wMeth "Keeper" "shelf" sp_Keeper_shelf (wVar 0) [] [])) (wsSeq (wsSet 3 (wCall sp_place_of [wVar 2, wVar 1] [])) (wsSeq (wsIf (wOp1 pIsN (wVar 3)) (wsRet (ret .non)) (wsNil)) (wsRet (wOp pIx (wOp pIx (wVar 2) (wVar 3)) (ret (.int 1))))))

abbrev n_Keeper_rows : List Str := ["self"]
def w_Keeper_rows : WS :=
  wsRet (wCall sp_rows_of [wMeth "Keeper" "shelf" sp_Keeper_shelf (wVar 0) [] []] [])

abbrev n_Keeper_disk : List Str := ["self"]
def w_Keeper_disk : WS :=
  wsRet (wCall sp_written [wOp1 (pFld "Keeper" "slabs") (wVar 0), wLst []] [])

abbrev n_Keeper_counts : List Str := ["self"]
def w_Keeper_counts : WS :=
  wsRet (wTup [wOp1 (pFld "Keeper" "many_puts") (wVar 0), wOp1 (pFld "Keeper" "many_moves") (wVar 0), wOp1 (pFld "Keeper" "many_laid") (wVar 0), wOp1 (pFld "Keeper" "first_excess") (wVar 0), wOp1 (pFld "Keeper" "first_over") (wVar 0)])

theorem sh_eq2 {d : Dk} {wh w : Int} {h : Nat} : ((if wh = 0 then d.a else d.b).take (2 ^ ((h : Nat) : Int).toNat * w).toNat) = shOn d w wh h := by
  unfold shOn Dk.ar
  rw [Int.toNat_natCast]
  rfl
theorem DkF.shLen {t w s wh : Int} {h : Nat} {d : Dk} (f : DkF t w wh h d) (g : Good t w s) : (shOn d w wh h).length ≤ 20480 := by
  obtain ⟨f1, f2, f3, f4, f5⟩ := f
  obtain ⟨g1, g2, g3, g4, g5, g6⟩ := g
  have z1 : (szI w t.toNat) ≤ 1024 * 20 := by
    have hp := pow10 t.toNat (by omega)
    exact Int.mul_le_mul hp.2 g4 (by omega) (by omega)
  have : (shOn d w wh h).length ≤ (d.ar wh).length := by unfold shOn; rw [List.length_take]; omega
  have : ((d.ar wh).length : Int) = szI w t.toNat := by unfold Dk.ar; split <;> assumption
  omega
theorem ob_Keeper_shelf : Ob n_Keeper_shelf sp_Keeper_shelf w_Keeper_shelf := by
  intro ds S Q E hS hd h
  unfold sp_Keeper_shelf at h
  split at h
  · rename_i p
    obtain ⟨fs, t, w, s, q, d, wh, h, hp, kf, dk, df, hG, hq⟩ := h
    obtain ⟨f1, f2, f3, f4, f5⟩ := id df
    obtain ⟨g1, g2, g3, g4, g5, g6⟩ := hG
    simp [-List.lookup_eq_none_iff, w_Keeper_shelf, startD, hp, kf.b, kf.s]
    refine ⟨d, wh, h, dk, f1, f2, ⟨by omega, by omega, g3⟩, ?_⟩
    rw [sh_eq2]
    exact ret_any hq
  · exact h.elim
theorem ob_Keeper_excess : Ob n_Keeper_excess sp_Keeper_excess w_Keeper_excess := by
  intro ds S Q E hS hd h
  unfold sp_Keeper_excess at h
  split at h
  · rename_i p
    obtain ⟨fs, t, w, s, q, d, wh, h, hp, kf, dk, df, hG, hq⟩ := h
    obtain ⟨f1, f2, f3, f4, f5⟩ := id df
    have hl := df.shLen hG
    have hG2 := hG
    obtain ⟨g1, g2, g3, g4, g5, g6⟩ := hG
    have dk2 := dk
    obtain ⟨i, j, l, h1, h2, h3, h4⟩ := dk
    rw [f1] at h4
    simp [-List.lookup_eq_none_iff, w_Keeper_excess, startD, hp, kf.b, kf.s, h1, h4, ix_three.2.2, jx00, ePl, jx1, kf.m ("shelf" : Str) (by decide +kernel)]
    refine ⟨fs, t, w, s, q, d, wh, h, hp, kf, dk2, df, hG2, ?_⟩
    refine ⟨shOn d w wh h, by simp, by omega, ⟨by omega, by omega, by omega, by omega⟩, ?_⟩
    exact ret_pure hS (by simp only [Cl]) (by simpa using hq)
  · exact h.elim
theorem ob_Keeper_over : Ob n_Keeper_over sp_Keeper_over w_Keeper_over := by
  intro ds S Q E hS hd h
  unfold sp_Keeper_over at h
  split at h
  · rename_i p
    obtain ⟨fs, t, w, s, q, d, wh, h, hp, kf, dk, df, hG, hq⟩ := h
    obtain ⟨f1, f2, f3, f4, f5⟩ := id df
    have hG2 := hG
    obtain ⟨g1, g2, g3, g4, g5, g6⟩ := hG
    have dk2 := dk
    obtain ⟨i, j, l, h1, h2, h3, h4⟩ := dk
    rw [f1] at h4
    simp [-List.lookup_eq_none_iff, w_Keeper_over, startD, hp, kf.b, kf.s, h1, h4, ix_three.2.2, jx00, ePl, jx1, kf.m ("shelf" : Str) (by decide +kernel)]
    refine ⟨fs, t, w, s, q, d, wh, h, hp, kf, dk2, df, hG2, ?_⟩
    refine ⟨shOn d w wh h, by simp, ⟨by omega, by omega⟩, ?_⟩
    exact ret_pure hS (by simp only [Cl]) (by simpa using hq)
  · exact h.elim
theorem ob_Keeper_rows : Ob n_Keeper_rows sp_Keeper_rows w_Keeper_rows := by
  intro ds S Q E hS hd h
  unfold sp_Keeper_rows at h
  split at h
  · rename_i p
    obtain ⟨fp, t, w, s, d, wh, h, c, ⟨q, i, j, l, rfl, nd, h0, h1, h2, h3, h4⟩, df, hG, hq⟩ := h
    have hl := df.shLen hG
    simp [-List.lookup_eq_none_iff, w_Keeper_rows, startD, h0, kFs_no (show ("shelf" : Str) ∈ kMeths by decide +kernel)]
    refine ⟨_, t, w, s, q, d, wh, h, h0, kFs_ok, ⟨i, j, l, h1, h2, h3, h4⟩, df, hG, ?_⟩
    refine ⟨shOn d w wh h, by simp, by omega, fun qs hm => ?_⟩
    refine ret_list hS (fun x hx => ?_) (List.getElem?_concat_length ..) (by simp) (cls_map eTh _ _) (hq qs hm)
    rw [List.append_assoc, List.getElem?_append_left hx]
  · exact h.elim
theorem behind_get {S T : Store} {x : Nat} : (S ++ T)[S.length + x]? = T[x]? := by
  rw [List.getElem?_append_right (Nat.le_add_right ..), Nat.add_sub_cancel_left]
theorem ret_dkC {S G : Store} {d : Dk} {Q : PQ} (hS : ClS S) (h : Q (.ref (S.length + 3)) (S ++ dkC S.length d)) : RetQ S.length Q (.ref ((S ++ G).length + 3)) (S ++ G ++ dkC (S ++ G).length d) := by
  have hl : S.length ≤ (S ++ G).length := by simp
  generalize hn : (S ++ G).length = n at *
  have g : ∀ x, (S ++ G ++ dkC n d)[n + x]? = (dkC n d)[x]? := fun x => by rw [← hn]; exact behind_get
  refine ret_disk (d := d) (k := n + 3) (i := n) (j := n + 1) (l := n + 2) hS (fun i hi => by rw [List.append_assoc, List.getElem?_append_left hi]) ((g 3).trans rfl) ((g 0).trans rfl) ((g 1).trans rfl) ((g 2).trans rfl) (by simp) (by simp; omega) h
theorem ob_Keeper_disk : Ob n_Keeper_disk sp_Keeper_disk w_Keeper_disk := by
  intro ds S Q E hS hd h
  unfold sp_Keeper_disk at h
  split at h
  · rename_i p
    obtain ⟨fp, t, w, s, d, c, ⟨q, i, j, l, rfl, nd, h0, h1, h2, h3, h4⟩, hq⟩ := h
    simp [-List.lookup_eq_none_iff, w_Keeper_disk, startD, h0, kFs_ok.s]
    refine ⟨d, [], DkAt.app ⟨i, j, l, h1, h2, h3, h4⟩, by simp, by simp, ?_⟩
    exact ret_dkC hS hq
  · exact h.elim
theorem ob_Keeper_counts : Ob n_Keeper_counts sp_Keeper_counts w_Keeper_counts := by
  intro ds S Q E hS hd h
  unfold sp_Keeper_counts at h
  split at h
  · rename_i p
    obtain ⟨fp, t, w, s, d, c, ⟨q, i, j, l, rfl, nd, h0, h1, h2, h3, h4⟩, hq⟩ := h
    simp [-List.lookup_eq_none_iff, w_Keeper_counts, startD, h0, kl_puts, kl_moves, kl_laid, kl_fe, kl_fo]
    exact ret_same hq
  · exact h.elim
theorem ob_Keeper_get : Ob n_Keeper_get sp_Keeper_get w_Keeper_get := by
  intro ds S Q E hS hd h
  unfold sp_Keeper_get at h
  split at h
  · rename_i p key
    obtain ⟨fp, t, w, s, d, wh, h, c, ⟨q, i, j, l, rfl, nd, h0, h1, h2, h3, h4⟩, df, hG, hq⟩ := h
    have hl := df.shLen hG
    simp [-List.lookup_eq_none_iff, w_Keeper_get, startD, h0, kFs_no (show ("shelf" : Str) ∈ kMeths by decide +kernel)]
    refine ⟨_, t, w, s, q, d, wh, h, h0, kFs_ok, ⟨i, j, l, h1, h2, h3, h4⟩, df, hG, ?_⟩
    refine ⟨shOn d w wh h, by simp, by omega, ?_⟩
    cases e : placeN (shOn d w wh h) key with
    | none =>
      rw [e] at hq
      simp [optI]
      exact .inr ⟨rfl, ret_pure hS (by simp only [Cl]) hq⟩
    | some n =>
      rw [e] at hq
      simp [optI]
      refine .inl ⟨rfl, ?_⟩
      obtain ⟨u, hu, _⟩ := place_some e
      have hn : n < (shOn d w wh h).length := (List.getElem?_eq_some_iff.mp hu).1
      have hu2 : (shOn d w wh h)[n] = some u := by rw [List.getElem?_eq_getElem hn] at hu; exact Option.some.inj hu
      refine ⟨_, pl_at hn, ?_⟩
      rw [hu2]
      simp [ePl, jx1]
      exact ret_pure hS (by simp only [Cl]) (hq u hu)
  · exact h.elim
theorem set_ne_get {T : Store} {p i : Nat} {c : Str} {fs : List (Str × D)} {xs : List D} {z : Cell} (hp : T[p]? = some (.ins c fs)) (hi : T[i]? = some (.lst xs)) : (T.set p z)[i]? = some (.lst xs) := by
  have hne : p ≠ i := by
    rintro rfl
    rw [hp] at hi
    cases hi
  rw [List.getElem?_set_ne hne]; exact hi
theorem DkAt.setIns {T : Store} {p q : Nat} {c : Str} {fs : List (Str × D)} {d : Dk} {z : Cell} (dk : DkAt T q d) (hp : T[p]? = some (.ins c fs)) : DkAt (T.set p z) q d := by
  obtain ⟨i, j, l, h1, h2, h3, h4⟩ := dk
  exact ⟨i, j, l, set_ne_get hp h1, set_ne_get hp h2, set_ne_get hp h3, set_ne_get hp h4⟩
def w_come_tail : WS :=
  wsSeq (wsFld "Keeper" "many_puts" (wVar 0) (ret (.int 0))) (wsSeq (wsFld "Keeper" "many_moves" (wVar 0) (ret (.int 0))) (wsSeq (wsFld "Keeper" "many_laid" (wVar 0) (ret (.int 0))) (wsSeq (wsFld "Keeper" "first_excess" (wVar 0) (wMeth "Keeper" "excess" sp_Keeper_excess (wVar 0) [] [])) (wsFld "Keeper" "first_over" (wVar 0) (wMeth "Keeper" "over" sp_Keeper_over (wVar 0) [] [])))))
theorem KF.cnt {t w s : Int} {q : Nat} {fs : List (Str × D)} {f : Str} {d : D} (h : KF t w s q fs) (hf : f ∈ (["many_puts", "many_moves", "many_laid", "first_excess", "first_over"] : List Str)) : KF t w s q (fputD f d fs) := by
  have : ∀ f ∈ (["many_puts", "many_moves", "many_laid", "first_excess", "first_over"] : List Str), (¬ ("bounds" : Str) = f) ∧ (¬ ("slabs" : Str) = f) ∧ ∀ x ∈ kMeths, ¬ x = f := by decide +kernel
  obtain ⟨h1, h2, h3⟩ := this f hf
  exact h.put h1 h2 h3
theorem come_tail {T : Store} {p q : Nat} {t w s : Int} {fs : List (Str × D)} {d : Dk} {wh : Int} {h : Nat} {x : Option D} {DD : DEnds} {E : PX} (hfs : fs = kF2 t w s q ∨ ∃ c, fs = kFs t w s q c) (hp : T[p]? = some (.ins "Keeper" fs)) (dk : DkAt T q d) (df : DkF t w wh h d) (hG : Good t w s)
    (hn : DD.nx [some (.ref p), x] (T.set p (.ins "Keeper" (kFs t w s q (upC w s wh h d))))) : w_come_tail [some (.ref p), x] T DD E := by
  have hset : ∀ c, (T.set p c)[p]? = some c := fun c => by
    rw [List.getElem?_set_self (List.getElem?_eq_some_iff.mp hp).1]
  have kf : KF t w s q fs := by
    rcases hfs with rfl | ⟨c, rfl⟩
    · exact kF2_ok
    · exact kFs_ok
  have hl : fs.length ≤ 7 := by
    rcases hfs with rfl | ⟨c, rfl⟩ <;> simp [kF2, kFs]
  have k1 : KF t w s q (fputD "many_puts" (.int 0) fs) := kf.cnt (by decide +kernel)
  have k2 : KF t w s q (fputD "many_moves" (.int 0) (fputD "many_puts" (.int 0) fs)) := k1.cnt (by decide +kernel)
  have k3 : KF t w s q (fputD "many_laid" (.int 0) (fputD "many_moves" (.int 0) (fputD "many_puts" (.int 0) fs))) := k2.cnt (by decide +kernel)
  have k4 : KF t w s q (fputD "first_excess" (.int (excessI (shOn d w wh h) w s h)) (fputD "many_laid" (.int 0) (fputD "many_moves" (.int 0) (fputD "many_puts" (.int 0) fs)))) := k3.cnt (by decide +kernel)
  have l1 := len_fputD "many_puts" (.int 0) fs
  have l2 := len_fputD "many_moves" (.int 0) (fputD "many_puts" (.int 0) fs)
  have l3 := len_fputD "many_laid" (.int 0) (fputD "many_moves" (.int 0) (fputD "many_puts" (.int 0) fs))
  have l4 := len_fputD "first_excess" (.int (excessI (shOn d w wh h) w s h)) (fputD "many_laid" (.int 0) (fputD "many_moves" (.int 0) (fputD "many_puts" (.int 0) fs)))
  have e5 : ∀ a b, fputD "first_over" (.int b) (fputD "first_excess" (.int a) (fputD "many_laid" (.int 0) (fputD "many_moves" (.int 0) (fputD "many_puts" (.int 0) fs)))) = kFs t w s q (0, 0, 0, a, b) := fun a b => by
    show put5 a b fs = _
    rcases hfs with rfl | ⟨c, rfl⟩
    · exact put5_2
    · exact put5_s
  rw [show kFs t w s q (upC w s wh h d) = _ from (e5 _ _).symm] at hn
  simp [-List.lookup_eq_none_iff, w_come_tail, hp, hset, k3.m _ (show ("excess" : Str) ∈ kMeths by decide +kernel)]
  refine ⟨by omega, by omega, by omega, ?_⟩
  refine ⟨_, t, w, s, q, d, wh, h, hset _, k3, dk.setIns hp, df, hG, ?_⟩
  simp [-List.lookup_eq_none_iff, hset, k4.m _ (show ("over" : Str) ∈ kMeths by decide +kernel)]
  refine ⟨by omega, ?_⟩
  refine ⟨_, t, w, s, q, d, wh, h, hset _, k4, dk.setIns hp, df, hG, ?_⟩
  simp [-List.lookup_eq_none_iff, hset]
  exact ⟨by omega, hn⟩
theorem sec_lt {ps : List Pl} {i : Nat} (h : Sec ps (some i)) : i < ps.length := by
  obtain ⟨t, h1, _⟩ := h
  exact (List.getElem?_eq_some_iff.mp h1).1
theorem shOn_lt {d : Dk} {w wh : Int} {h i : Nat} (hi : i < (shOn d w wh h).length) : i < (d.ar wh).length := by
  unfold shOn at hi
  rw [List.length_take] at hi
  omega
theorem DkF.put {t w wh : Int} {h : Nat} {d : Dk} {i : Nat} (f : DkF t w wh h d) : DkF t w wh h (d.put (wh, ((i : Nat) : Int), none)) := by
  obtain ⟨f1, f2, f3, f4, f5⟩ := f
  refine ⟨?_, f2, f3, by rw [put_a]; exact f4, by rw [put_b]; exact f5⟩
  rcases f2 with rfl | rfl <;> simp [Dk.put, f1]
theorem kp_mk {T : Store} {p q i j l : Nat} {t w s : Int} {d : Dk} {c : Cnt} {z : Cell} (nd : ((¬ p = q ∧ ¬ p = i ∧ ¬ p = j ∧ ¬ p = l) ∧ (¬ q = i ∧ ¬ q = j ∧ ¬ q = l) ∧ (¬ i = j ∧ ¬ i = l) ∧ ¬ j = l)) (h0 : T[p]? = some z) (h1 : T[q]? = some (.lst [.ref i, .ref j, .ref l])) (h2 : T[i]? = some (shp d.a)) (h3 : T[j]? = some (shp d.b)) (h4 : T[l]? = some (shp d.c)) :
    KpAt (T.set p (.ins "Keeper" (kFs t w s q c))) p [p, q, i, j, l] t w s d c := by
  obtain ⟨⟨n1, n2, n3, n4⟩, ⟨n5, n6, n7⟩, ⟨n8, n9⟩, n10⟩ := nd
  refine ⟨q, i, j, l, rfl, by simp [*], List.getElem?_set_self (List.getElem?_eq_some_iff.mp h0).1, ?_, ?_, ?_, ?_⟩
  · rw [List.getElem?_set_ne n1]; exact h1
  · rw [List.getElem?_set_ne n2]; exact h2
  · rw [List.getElem?_set_ne n3]; exact h3
  · rw [List.getElem?_set_ne n4]; exact h4
def KpX0 (T : Store) (p q i j l : Nat) (fs : List (Str × D)) (d : Dk) : Prop := T[p]? = some (.ins "Keeper" fs) ∧ T[q]? = some (.lst [.ref i, .ref j, .ref l]) ∧ T[i]? = some (shp d.a) ∧ T[j]? = some (shp d.b) ∧ T[l]? = some (shp d.c)
theorem ob_Keeper_come_up : Ob n_Keeper_come_up sp_Keeper_come_up w_Keeper_come_up := by
  intro ds S Q E hS hd h
  unfold sp_Keeper_come_up at h
  split at h
  · rename_i p
    obtain ⟨fs, t, w, s, q, i, j, l, d, wh, h, hp, hfs, nd, h1, h2, h3, h4, df, hG, hq⟩ := h
    have hsl := df.shLen hG
    have f1 := df.1
    have f2 := df.2.1
    have hlt := (List.getElem?_eq_some_iff.mp hp).1
    have kf : KF t w s q fs := by
      rcases hfs with rfl | ⟨c, rfl⟩
      · exact kF2_ok
      · exact kFs_ok
    have dk : DkAt S q d := ⟨i, j, l, h1, h2, h3, h4⟩
    have h4' := h4
    rw [f1] at h4'
    simp only [List.nodup_cons, List.mem_cons, List.not_mem_nil, or_false, not_or, List.nodup_nil, and_true] at nd
    obtain ⟨⟨n1, n2, n3, n4⟩, ⟨n5, n6, n7⟩, ⟨n8, n9⟩, n10, _⟩ := nd
    show wsSeq (wsSet 1 _) (wsSeq _ w_come_tail) _ _ _ _
    simp [-List.lookup_eq_none_iff, startD, hp, kf.m _ (show ("shelf" : Str) ∈ kMeths by decide +kernel)]
    refine ⟨fs, t, w, s, q, d, wh, h, hp, kf, dk, df, hG, ?_⟩
    refine ⟨shOn d w wh h, by simp, by omega, fun r hr => ?_⟩
    cases r with
    | none =>
      simp [optI]
      refine .inl ⟨rfl, ?_⟩
      refine come_tail hfs (app_get hp) dk.app df hG ?_
      refine .inl (hq d _ ⟨none, hr, rfl⟩ (Kps.app.trans (Kps.set (.inl (by simp))) (fun x hx => .inl hx)) ?_)
      exact kp_mk ⟨⟨n1, n2, n3, n4⟩, ⟨n5, n6, n7⟩, ⟨n8, n9⟩, n10⟩ (app_get hp) (app_get h1) (app_get h2) (app_get h3) (app_get h4)
    | some x =>
      have hx := sec_lt hr
      have hx2 := shOn_lt hx
      have hput : MendD w wh h d (d.put (wh, ((x : Nat) : Int), none)) := ⟨some x, hr, rfl⟩
      have a := fun {m : Nat} {c : Cell} (e : S[m]? = some c) => app_get (G := [shp (shOn d w wh h)]) e
      simp [-List.lookup_eq_none_iff, optI, a hp, kf.s, a h1, a h4', ix_three.2.2, jx00, ePl]
      have hq2 : ∀ (T : Store), Kps S T [p, q, i, j, l] → KpX0 T p q i j l fs (d.put (wh, ((x : Nat) : Int), none)) → w_come_tail [some (.ref p), some (.int x)] T { nx := fun x S' => RetQ S.length Q D.non S', rt := RetQ S.length Q } (fun c x S' => RetE S.length E c S') := by
        intro T hk ⟨x0, x1, x2, x3, x4⟩
        refine come_tail hfs x0 ⟨i, j, l, x1, x2, x3, x4⟩ df.put hG ?_
        refine .inl (hq _ _ hput (hk.trans (Kps.set (.inl (by simp))) (fun x hx => .inl hx)) ?_)
        exact kp_mk ⟨⟨n1, n2, n3, n4⟩, ⟨n5, n6, n7⟩, ⟨n8, n9⟩, n10⟩ x0 x1 x2 x3 x4
      have hE : (D.tup [] : D) = ePl.enc none := rfl
      rcases f2 with rfl | rfl
      · have hx3 : x < d.a.length := by simpa [Dk.ar] using hx2
        refine .inr ⟨rfl, .int 0, rfl, ?_⟩
        simp [a h1, ix_three]
        refine ⟨_, a h2, x, ixN_ok (by omega) (by simp; omega), ?_⟩
        rw [hE, map_set]
        refine hq2 _ (Kps.app.trans (Kps.set (.inl (by simp))) (fun x hx => .inl hx)) ⟨?_, ?_, ?_, ?_, ?_⟩
        · rw [List.getElem?_set_ne (Ne.symm n2)]; exact a hp
        · rw [List.getElem?_set_ne (Ne.symm n5)]; exact a h1
        · rw [List.getElem?_set_self (List.getElem?_eq_some_iff.mp (a h2)).1]
          simp [Dk.put]
        · rw [List.getElem?_set_ne n8]; simpa [Dk.put] using a h3
        · rw [List.getElem?_set_ne n9]; simpa [Dk.put] using a h4
      · have hx3 : x < d.b.length := by simpa [Dk.ar] using hx2
        refine .inr ⟨rfl, .int 1, rfl, ?_⟩
        simp [a h1, ix_three]
        refine ⟨_, a h3, x, ixN_ok (by omega) (by simp; omega), ?_⟩
        rw [hE, map_set]
        refine hq2 _ (Kps.app.trans (Kps.set (.inl (by simp))) (fun x hx => .inl hx)) ⟨?_, ?_, ?_, ?_, ?_⟩
        · rw [List.getElem?_set_ne (Ne.symm n3)]; exact a hp
        · rw [List.getElem?_set_ne (Ne.symm n6)]; exact a h1
        · rw [List.getElem?_set_ne (Ne.symm n8)]; simpa [Dk.put] using a h2
        · rw [List.getElem?_set_self (List.getElem?_eq_some_iff.mp (a h3)).1]
          simp [Dk.put]
        · rw [List.getElem?_set_ne n10]; simpa [Dk.put] using a h4
  · exact h.elim
/-! ### a keeper with its places told -/
def KpX (T : Store) (p q i j l : Nat) (t w s : Int) (d : Dk) (c : Cnt) : Prop :=
  ((¬ p = q ∧ ¬ p = i ∧ ¬ p = j ∧ ¬ p = l) ∧ (¬ q = i ∧ ¬ q = j ∧ ¬ q = l) ∧ (¬ i = j ∧ ¬ i = l) ∧ ¬ j = l) ∧ T[p]? = some (.ins "Keeper" (kFs t w s q c)) ∧ T[q]? = some (.lst [.ref i, .ref j, .ref l]) ∧ T[i]? = some (shp d.a) ∧ T[j]? = some (shp d.b) ∧ T[l]? = some (shp d.c)
theorem nd5 {p q i j l : Nat} : [p, q, i, j, l].Nodup ↔ ((¬ p = q ∧ ¬ p = i ∧ ¬ p = j ∧ ¬ p = l) ∧ (¬ q = i ∧ ¬ q = j ∧ ¬ q = l) ∧ (¬ i = j ∧ ¬ i = l) ∧ ¬ j = l) := by
  simp only [List.nodup_cons, List.mem_cons, List.not_mem_nil, or_false, not_or, List.nodup_nil, and_true, not_false_eq_true]
theorem KpAt.x {T : Store} {p : Nat} {fp : List Nat} {t w s : Int} {d : Dk} {c : Cnt} (h : KpAt T p fp t w s d c) : ∃ q i j l, fp = [p, q, i, j, l] ∧ KpX T p q i j l t w s d c := by
  obtain ⟨q, i, j, l, rfl, nd, h1, h2, h3, h4, h5⟩ := h
  exact ⟨q, i, j, l, rfl, nd5.mp nd, h1, h2, h3, h4, h5⟩
theorem KpX.at {T : Store} {p q i j l : Nat} {t w s : Int} {d : Dk} {c : Cnt} (h : KpX T p q i j l t w s d c) : KpAt T p [p, q, i, j, l] t w s d c :=
  ⟨q, i, j, l, rfl, nd5.mpr h.1, h.2.1, h.2.2.1, h.2.2.2.1, h.2.2.2.2.1, h.2.2.2.2.2⟩
theorem KpX.app {T G : Store} {p q i j l : Nat} {t w s : Int} {d : Dk} {c : Cnt} (h : KpX T p q i j l t w s d c) : KpX (T ++ G) p q i j l t w s d c :=
  ⟨h.1, app_get h.2.1, app_get h.2.2.1, app_get h.2.2.2.1, app_get h.2.2.2.2.1, app_get h.2.2.2.2.2⟩
theorem KpX.set {T : Store} {p q i j l : Nat} {t w s : Int} {d : Dk} {c c' : Cnt} (h : KpX T p q i j l t w s d c) : KpX (T.set p (.ins "Keeper" (kFs t w s q c'))) p q i j l t w s d c' :=
  ⟨h.1, List.getElem?_set_self (List.getElem?_eq_some_iff.mp h.2.1).1, set_ne_get h.2.1 h.2.2.1, set_ne_get h.2.1 h.2.2.2.1, set_ne_get h.2.1 h.2.2.2.2.1, set_ne_get h.2.1 h.2.2.2.2.2⟩
theorem KpX.dk {T : Store} {p q i j l : Nat} {t w s : Int} {d : Dk} {c : Cnt} (h : KpX T p q i j l t w s d c) : DkAt T q d := ⟨i, j, l, h.2.2.1, h.2.2.2.1, h.2.2.2.2.1, h.2.2.2.2.2⟩
theorem KpX.lt {T : Store} {p q i j l : Nat} {t w s : Int} {d : Dk} {c : Cnt} (h : KpX T p q i j l t w s d c) : p < T.length ∧ q < T.length ∧ i < T.length ∧ j < T.length ∧ l < T.length :=
  ⟨(List.getElem?_eq_some_iff.mp h.2.1).1, (List.getElem?_eq_some_iff.mp h.2.2.1).1, (List.getElem?_eq_some_iff.mp h.2.2.2.1).1, (List.getElem?_eq_some_iff.mp h.2.2.2.2.1).1, (List.getElem?_eq_some_iff.mp h.2.2.2.2.2).1⟩
/-- the slabs anew: a copy of the disk, written -/
theorem KpX.new {T : Store} {p q i j l : Nat} {t w s : Int} {d d' : Dk} {c : Cnt} (h : KpX T p q i j l t w s d c) :
    KpX ((T ++ dkC T.length d').set p (.ins "Keeper" (kFs t w s (T.length + 3) c))) p (T.length + 3) T.length (T.length + 1) (T.length + 2) t w s d' c := by
  obtain ⟨l1, _⟩ := h.lt
  have hp : (T ++ dkC T.length d')[p]? = some (.ins "Keeper" (kFs t w s q c)) := app_get h.2.1
  refine ⟨by omega, List.getElem?_set_self (by simp; omega), set_ne_get hp dk3n, set_ne_get hp dk0n, set_ne_get hp dk1n, set_ne_get hp dk2n⟩
theorem moOk_non : moOk .non := .inl rfl
theorem ob_Keeper_write_all : Ob n_Keeper_write_all sp_Keeper_write_all w_Keeper_write_all := by
  intro ds S Q E hS hd h
  unfold sp_Keeper_write_all at h
  split at h
  · rename_i p m mo
    obtain ⟨fp, t, w, s, d, c, ws, hK, hmf, hm, hok, hmo, hG, hb⟩ := h
    obtain ⟨q, i, j, l, rfl, X⟩ := hK.x
    obtain ⟨l1, l2, l3, l4, l5⟩ := X.lt
    have hp := X.2.1
    have all : brk mo ws.length = none → RetQ S.length Q (.bl true) ((S ++ dkC S.length (d.puts ws)).set p (.ins "Keeper" (fputD "slabs" (.ref (S.length + 3)) (kFs t w s q c)))) := by
      intro e
      rw [e] at hb
      rw [fs_slabs]
      refine .inl (hb _ _ (Kps.app.trans (Kps.set (.inl (by simp))) (fun x hx => .inl hx)) ?_ (X.new (d' := d.puts ws)).at)
      intro x hx
      simp only [List.mem_cons, List.not_mem_nil, or_false] at hx
      rcases hx with rfl | rfl | rfl | rfl | rfl
      · exact .inl (by simp)
      all_goals exact .inr (by omega)
    have hlen : (kFs t w s q c).length < 1000 := by simp [kFs]
    rcases hmo with rfl | ⟨M, rfl, hM⟩
    · simp [-List.lookup_eq_none_iff, w_Keeper_write_all, startD, hm, hp, kFs_ok.s]
      refine ⟨d, ws, X.dk, hm, hok, ?_⟩
      have hp2 := app_get (G := dkC S.length (d.puts ws)) hp
      simp [hp2, hlen]
      exact all rfl
    · by_cases hge : (ws.length : Int) ≤ M
      · simp [-List.lookup_eq_none_iff, w_Keeper_write_all, startD, hm, hp, kFs_ok.s, hge]
        refine .inr ⟨d, ws, X.dk, hm, hok, ?_⟩
        have hp2 := app_get (G := dkC S.length (d.puts ws)) hp
        simp [hp2, hlen]
        exact all (by simp [brk]; omega)
      · have e : brk (.int M) ws.length = some M.toNat := by simp [brk]; omega
        rw [e] at hb
        obtain ⟨wh, h, hdf, hb⟩ := hb
        simp [-List.lookup_eq_none_iff, w_Keeper_write_all, startD, hm, hp, kFs_ok.s, hge]
        rw [if_neg (show ¬ (isNon (.int M) = true) by simp [isNon])]
        refine ⟨by omega, ?_⟩
        rw [cutD_takeE dwE ws hM]
        have X1 := X.app (G := [dwp (ws.take M.toNat)])
        have hm1 : (S ++ [dwp (ws.take M.toNat)])[S.length]? = some (dwp (ws.take M.toNat)) := by simp
        refine ⟨d, ws.take M.toNat, X1.dk, hm1, fun x hx => hok x (List.mem_of_mem_take hx), ?_⟩
        have X2 := X1.new (d' := d.puts (ws.take M.toNat))
        have hp2 := app_get (G := dkC (S ++ [dwp (ws.take M.toNat)]).length (d.puts (ws.take M.toNat))) X1.2.1
        have K2 : Kps S (((S ++ [dwp (ws.take M.toNat)]) ++ dkC (S ++ [dwp (ws.take M.toNat)]).length (d.puts (ws.take M.toNat))).set p (.ins "Keeper" (kFs t w s ((S ++ [dwp (ws.take M.toNat)]).length + 3) c))) [p, q, i, j, l] := by
          rw [List.append_assoc]
          exact Kps.app.trans (Kps.set (.inl (by simp))) (fun x hx => .inl hx)
        have hL : S.length ≤ (S ++ [dwp (ws.take M.toNat)]).length := by simp
        generalize hS1 : S ++ [dwp (ws.take M.toNat)] = S1 at *
        simp [-List.lookup_eq_none_iff, hp2, hlen, fs_slabs]
        generalize hT : (S1 ++ dkC S1.length (d.puts (ws.take M.toNat))).set p (.ins "Keeper" (kFs t w s (S1.length + 3) c)) = T at *
        simp [-List.lookup_eq_none_iff, X2.2.1, kFs_no (show ("come_up" : Str) ∈ kMeths by decide +kernel)]
        refine ⟨_, t, w, s, S1.length + 3, S1.length, S1.length + 1, S1.length + 2, d.puts (ws.take M.toNat), wh, h, X2.2.1, .inr ⟨c, rfl⟩, nd5.mpr X2.1, X2.2.2.1, X2.2.2.2.1, X2.2.2.2.2.1, X2.2.2.2.2.2, hdf, hG, ?_⟩
        intro d' S' hMd hKp hKA
        have ho : ∀ x ∈ [p, S1.length + 3, S1.length, S1.length + 1, S1.length + 2], x ∈ [p, q, i, j, l] ∨ S.length ≤ x := by
          intro x hx
          simp only [List.mem_cons, List.not_mem_nil, or_false] at hx
          rcases hx with rfl | rfl | rfl | rfl | rfl
          · exact .inl (by simp)
          all_goals exact .inr (by omega)
        exact .inl (hb d' S' _ hMd (K2.trans hKp ho) ho hKA)
  · exact h.elim
theorem ob_Keeper_take : Ob n_Keeper_take sp_Keeper_take w_Keeper_take := by
  intro ds S Q E hS hd h
  unfold sp_Keeper_take at h
  split at h
  · rename_i p key mo
    obtain ⟨fp, t, w, s, d, wh, h, c, hK, o, hmo, hb⟩ := h
    obtain ⟨q, i, j, l, rfl, X⟩ := id hK.x
    obtain ⟨l1, l2, l3, l4, l5⟩ := X.lt
    have hp := X.2.1
    simp [-List.lookup_eq_none_iff, w_Keeper_take, startD, hp, kFs_ok.s, kFs_ok.b]
    refine ⟨d, wh, h, X.dk, o, ?_⟩
    cases e : placeN (shOn d w wh h) key with
    | none =>
      rw [e] at hb
      exact .inl hb
    | some n =>
      rw [e] at hb
      obtain ⟨hok, hb⟩ := hb
      dsimp only
      have X1 := X.app (G := [dwp [(wh, ((n : Nat) : Int), (none : Pl))]])
      have hm1 : (S ++ [dwp [(wh, ((n : Nat) : Int), (none : Pl))]])[S.length]? = some (dwp [(wh, ((n : Nat) : Int), (none : Pl))]) := by simp
      have hK1 : Kps S (S ++ [dwp [(wh, ((n : Nat) : Int), (none : Pl))]]) [p, q, i, j, l] := Kps.app
      generalize hT : S ++ [dwp [(wh, ((n : Nat) : Int), (none : Pl))]] = T at *
      have hL : S.length ≤ T.length := hK1.1
      simp [-List.lookup_eq_none_iff, X1.2.1, kFs_no (show ("write_all" : Str) ∈ kMeths by decide +kernel)]
      refine ⟨_, t, w, s, d, c, _, X1.at, ?_, hm1, (by simpa using hok), hmo, o.good, ?_⟩
      · simp; omega
      have ho : ∀ fp' : List Nat, (∀ x ∈ fp', x ∈ [p, q, i, j, l] ∨ T.length ≤ x) → ∀ x ∈ fp', x ∈ [p, q, i, j, l] ∨ S.length ≤ x := fun fp' hx x hm => (hx x hm).imp id (fun y => Nat.le_trans hL y)
      show match brk mo 1 with | none => _ | some k => _
      cases e2 : brk mo 1 with
      | none =>
        rw [e2] at hb
        intro S' fp' k1 k2 k3
        have hm2 := k1.get hm1 (by simp; omega)
        simp [hm2]
        exact .inl (hb S' fp' (hK1.trans k1 (fun x hx => .inl hx)) (ho fp' k2) k3)
      | some k =>
        rw [e2] at hb
        have hk0 : k = 0 := by
          unfold brk at e2
          split at e2
          · split at e2
            · cases e2; omega
            · cases e2
          · cases e2
        subst hk0
        refine ⟨wh, h, ⟨o.c, o.wh01, o.ht, o.la, o.lb⟩, ?_⟩
        intro d' S' fp' hMd k1 k2 k3
        simp
        exact .inl (hb d' S' fp' hMd (hK1.trans k1 (fun x hx => .inl hx)) (ho fp' k2) k3)
  · exact h.elim
theorem ne_empty {S : Store} {i j : Nat} {ns : List Nat} {ρ : DEnv} {Q : PQ} {E : PX} (h1 : S[i]? = some (.lst (ns.map fun k => D.int (k : Nat)))) (h2 : S[j]? = some (.lst [])) (q : Q (.bl (!decide (ns = []))) S) : pNe (.ref i) (.ref j) ρ S Q E := by
  have h1' : S[i]? = some (.lst ((ns.map fun k => ((k : Nat) : Int)).map eInt.enc)) := by rw [h1, List.map_map]; rfl
  refine ne_list eInt h1' (ys := []) h2 ?_
  simpa using q
def w_put_tail : WS :=
  wsSeq (wsIf (wVar 6) (wsSeq (wsFld "Keeper" "many_puts" (wVar 0) (wOp pAdd (wOp1 (pFld "Keeper" "many_puts") (wVar 0)) (ret (.int 1)))) (wsSeq (wsSet 9 (ret (.int 0))) (wsSeq (wsIf (wOp pNe (wVar 7) (wLst [])) (wsSeq (wsSet 9 (wOp pAdd (wOp pIx (wVar 7) (ret (.int 0))) (ret (.int 1)))) (wsFld "Keeper" "many_laid" (wVar 0) (wOp pAdd (wOp1 (pFld "Keeper" "many_laid") (wVar 0)) (wB bLen [wCall sp_rows_of [wVar 5] []])))) (wsNil)) (wsFld "Keeper" "many_moves" (wVar 0) (wOp pAdd (wOp1 (pFld "Keeper" "many_moves") (wVar 0)) (wOp pDiv (wOp pSub (wB bLen [wVar 4]) (wVar 9)) (ret (.int 2)))))))) (wsNil)) (wsRet (wB bLen [wVar 4]))
theorem put_tail {T : Store} {p q i j l m : Nat} {t w s wh : Int} {h : Nat} {d d' : Dk} {c : Cnt} {key : Int} {ws : List DW} {DD : DEnds} {E : PX} {a1 a2 a3 : Option D} (X : KpX T p q i j l t w s d' c) (hlen : (shOn d w wh h).length ≤ 20480) (hr : NoEq (things (shOn d w wh h))) (hm : T[m]? = some (dwp ws)) (hsh : T[m + 1]? = some (shp (shOn d w wh h))) (hsg : T[m + 2]? = some (.lst ((sgn ws).map fun k => D.int (k : Nat))))
    (hw : (ws.length : Int) < 2 ^ 62)
    (hq : ∀ T', Kps T T' [p] → KpX T' p q i j l t w s d' (cntPut w wh h d key ws c) → DD.rt (.int ws.length) T') :
    w_put_tail [some (.ref p), a1, a2, a3, some (.ref m), some (.ref (m + 1)), some (.bl (decide (placeN (shOn d w wh h) key = none))), some (.ref (m + 2)), none, none] T DD E := by
  by_cases hf : placeN (shOn d w wh h) key = none
  · have hkl : ∀ c, (kFs t w s q c).length < 1000 := fun c => by simp [kFs]
    have hset : ∀ T1 z, Kps T T1 [p] → (T1.set p z)[p]? = some z := fun T1 z k => List.getElem?_set_self (Nat.lt_of_lt_of_le X.lt.1 k.1)
    have Y1 : KpX (T.set p (.ins "Keeper" (kFs t w s q (c.1 + 1, c.2)))) p q i j l t w s d' (c.1 + 1, c.2) := X.set
    have K1 : Kps T (T.set p (.ins "Keeper" (kFs t w s q (c.1 + 1, c.2)))) [p] := Kps.set (.inl (by simp))
    have hne : ∀ x, (∃ xs, T[x]? = some (.lst xs)) → x ∉ [p] := by
      rintro x ⟨xs, hx⟩ hm
      simp at hm
      subst hm
      rw [X.2.1] at hx
      cases hx
    simp [-List.lookup_eq_none_iff, w_put_tail, hf, X.2.1, kl_puts, fs_puts, hkl]
    generalize hT1 : T.set p (.ins "Keeper" (kFs t w s q (c.1 + 1, c.2))) = T1 at *
    have hm1 := K1.get hm (hne _ ⟨_, hm⟩)
    have hsh1 := K1.get hsh (hne _ ⟨_, hsh⟩)
    have hsg1 := K1.get hsg (hne _ ⟨_, hsg⟩)
    have hTl : T.length = T1.length := by rw [← hT1]; simp
    refine ne_empty (ns := sgn ws) (app_get hsg1) (by rw [hTl]; exact get_at) ?_
    have K2 : Kps T (T1 ++ [Cell.lst []]) [p] := K1.trans (Kps.app (ex := [])) (by simp)
    have Y2 := Y1.app (G := [Cell.lst []])
    have hm2 := app_get (G := [Cell.lst []]) hm1
    have hsh2 := app_get (G := [Cell.lst []]) hsh1
    have hsg2 := app_get (G := [Cell.lst []]) hsg1
    generalize hT2 : T1 ++ [Cell.lst []] = T2 at *
    by_cases hs : sgn ws = []
    · simp [-List.lookup_eq_none_iff, hs, Y2.2.1, kl_moves, hm2, fs_moves, hkl]
      have Y3 := Y2.set (c' := ((c.1 + 1, c.2).1, (c.1 + 1, c.2).2.1 + (ws.length : Int) / 2, (c.1 + 1, c.2).2.2))
      have K3 : Kps T2 (T2.set p (.ins "Keeper" (kFs t w s q ((c.1 + 1, c.2).1, (c.1 + 1, c.2).2.1 + (ws.length : Int) / 2, (c.1 + 1, c.2).2.2)))) [p] := Kps.set (.inl (by simp))
      have hm3 := K3.get hm2 (fun hh => by simp at hh; subst hh; rw [Y2.2.1] at hm2; cases hm2)
      refine ⟨_, hm3, ?_⟩
      simp
      refine hq _ (K2.trans K3 (fun x hx => .inl hx)) ?_
      have e : cntPut w wh h d key ws c = ((c.1 + 1, c.2).1, (c.1 + 1, c.2).2.1 + (ws.length : Int) / 2, (c.1 + 1, c.2).2.2) := by
        unfold cntPut beh
        rw [if_pos hf, if_pos hs, hs]
        simp
      rw [e]
      exact Y3
    · obtain ⟨k0, kr, hs2⟩ : ∃ k0 kr, sgn ws = k0 :: kr := by
        cases hh : sgn ws with
        | nil => exact (hs hh).elim
        | cons a b => exact ⟨a, b, rfl⟩
      rw [hs2] at hsg2
      simp [-List.lookup_eq_none_iff, hs2, hsg2, jx0, Y2.2.1, kl_laid]
      refine ⟨D.int k0, by rw [atI_lt (by decide) (by simp)]; rfl, ?_⟩
      simp [-List.lookup_eq_none_iff, Y2.2.1, kl_laid]
      refine ⟨_, hsh2, by omega, fun qs hqs => ?_⟩
      rw [mend_none hr hqs]
      have K3 : Kps T (T2 ++ [thp (things (shOn d w wh h))]) [p] := K2.trans (Kps.app (ex := [])) (by simp)
      have Y3 := Y2.app (G := [thp (things (shOn d w wh h))])
      have hth : (T2 ++ [thp (things (shOn d w wh h))])[T2.length]? = some (thp (things (shOn d w wh h))) := by simp
      have hm3 := app_get (G := [thp (things (shOn d w wh h))]) hm2
      generalize hT3 : T2 ++ [thp (things (shOn d w wh h))] = T3 at *
      simp [-List.lookup_eq_none_iff, hth, Y3.2.1, fs_laid, hkl]
      have Y4 := Y3.set (c' := ((c.1 + 1, c.2).1, (c.1 + 1, c.2).2.1, (c.1 + 1, c.2).2.2.1 + ((things (shOn d w wh h)).length : Int), (c.1 + 1, c.2).2.2.2))
      have K4 : Kps T3 (T3.set p (.ins "Keeper" (kFs t w s q ((c.1 + 1, c.2).1, (c.1 + 1, c.2).2.1, (c.1 + 1, c.2).2.2.1 + ((things (shOn d w wh h)).length : Int), (c.1 + 1, c.2).2.2.2)))) [p] := Kps.set (.inl (by simp))
      have hm4 := K4.get hm3 (fun hh => by simp at hh; subst hh; rw [Y3.2.1] at hm3; cases hm3)
      have K5 := K3.trans K4 (fun x hx => .inl hx)
      generalize hT4 : T3.set p (.ins "Keeper" (kFs t w s q ((c.1 + 1, c.2).1, (c.1 + 1, c.2).2.1, (c.1 + 1, c.2).2.2.1 + ((things (shOn d w wh h)).length : Int), (c.1 + 1, c.2).2.2.2))) = T4 at *
      simp [-List.lookup_eq_none_iff, Y4.2.1, kl_moves, hm4, fs_moves, hkl]
      have Y5 := Y4.set (c' := (c.1 + 1, c.2.1 + ((ws.length : Int) - ((k0 : Int) + 1)) / 2, c.2.2.1 + ((things (shOn d w wh h)).length : Int), c.2.2.2))
      have K6 : Kps T4 (T4.set p (.ins "Keeper" (kFs t w s q (c.1 + 1, c.2.1 + ((ws.length : Int) - ((k0 : Int) + 1)) / 2, c.2.2.1 + ((things (shOn d w wh h)).length : Int), c.2.2.2)))) [p] := Kps.set (.inl (by simp))
      have hm5 := K6.get hm4 (fun hh => by simp at hh; subst hh; rw [Y4.2.1] at hm4; cases hm4)
      refine ⟨_, hm5, ?_⟩
      simp
      refine hq _ (K5.trans K6 (fun x hx => .inl hx)) ?_
      have e : cntPut w wh h d key ws c = (c.1 + 1, c.2.1 + ((ws.length : Int) - ((k0 : Int) + 1)) / 2, c.2.2.1 + ((things (shOn d w wh h)).length : Int), c.2.2.2) := by
        unfold cntPut beh
        rw [if_pos hf, hs2]
        simp
      rw [e]
      exact Y5
  · simp [w_put_tail, hf, hm]
    refine hq T Kps.refl ?_
    unfold cntPut
    rw [if_neg hf]
    exact X
theorem isB_good {b : D} (h : isB b = true) : ∃ t w s, b = bnd t w s ∧ Good t w s := by
  unfold isB at h
  split at h
  · rename_i t w s
    exact ⟨t, w, s, rfl, by simpa using h⟩
  · cases h
theorem ob_Keeper_init : Ob n_Keeper_init sp_Keeper_init w_Keeper_init := by
  intro ds S Q E hS hd h
  unfold sp_Keeper_init at h
  split at h
  · rename_i p b dk
    obtain ⟨hp, hty, hbad, hgo⟩ := h
    have hlt := (List.getElem?_eq_some_iff.mp hp).1
    simp [-List.lookup_eq_none_iff, w_Keeper_init, startD, sp_is_bounds, hty]
    cases hB : isB b with
    | false => simp; exact .inl (hbad hB)
    | true =>
      obtain ⟨t, w, s, hb, hG⟩ := isB_good hB
      obtain ⟨htm, hbd, hgo2⟩ := hgo t w s hb hG
      subst hb
      simp [-List.lookup_eq_none_iff, sp_is_disk, bnd]
      refine ⟨hG, htm, fun hf => .inl (hbd hf), fun n k wh h e kt kf qs hm => ?_⟩
      · have hnp : n ≠ p := by
          rintro rfl
          obtain ⟨i, j, l, h1, _⟩ := kt
          rw [hp] at h1
          cases h1
        have hx := hgo2 n k wh h e hnp kt kf qs hm
        subst e
        by_cases hr : Rises (things qs) ∧ ((things qs).length : Int) ≤ capI w s h
        · rw [if_pos hr] at hx
          have hset : ∀ z, (S.set p z)[p]? = some z := fun z => List.getElem?_set_self hlt
          simp [-List.lookup_eq_none_iff, hr.1, hr.2, hp]
          have k1 : DkAt (S.set p (.ins "Keeper" (fputD "bounds" (bnd t w s) []))) n k := kt.setIns hp
          have p1 := hset (.ins "Keeper" (fputD "bounds" (bnd t w s) []))
          have K1 : Kps S (S.set p (.ins "Keeper" (fputD "bounds" (bnd t w s) []))) [p] := Kps.set (.inl (by simp))
          simp only [bnd] at k1 p1 K1
          have hT1l : (S.set p (.ins "Keeper" (fputD "bounds" (.tup [.int t, .int w, .int s]) []))).length = S.length := by simp
          generalize hT1 : S.set p (.ins "Keeper" (fputD "bounds" (.tup [.int t, .int w, .int s]) [])) = T1 at *
          have hl1 : S.length ≤ T1.length := K1.1
          have k2 := k1.app (G := [Cell.lst []])
          have p2 := app_get (G := [Cell.lst []]) p1
          have K2 : Kps S (T1 ++ [Cell.lst []]) [p] := K1.trans (Kps.app (ex := [])) (by simp)
          have hm2 : (T1 ++ [Cell.lst []])[S.length]? = some (dwp []) := by rw [← hT1l]; simp
          have hl2 : S.length ≤ (T1 ++ [Cell.lst []]).length := K2.1
          refine .inl ⟨k, [], k2, hm2, by simp, ?_⟩
          generalize hT2 : T1 ++ [Cell.lst []] = T2 at *
          have p3 := app_get (G := dkC T2.length (k.puts [])) p2
          have hlp : p < T2.length := (List.getElem?_eq_some_iff.mp p2).1
          have e2 := fs_2 (t := t) (w := w) (s := s) (q := T2.length + 3)
          simp only [bnd] at e2
          have K3 : Kps S ((T2 ++ dkC T2.length (k.puts [])).set p (.ins "Keeper" (kF2 t w s (T2.length + 3)))) [p] := K2.trans (Kps.app.trans (Kps.set (.inl (by simp))) (fun x hx => .inl hx)) (fun x hx => .inl hx)
          have p4 : ((T2 ++ dkC T2.length (k.puts [])).set p (.ins "Keeper" (kF2 t w s (T2.length + 3))))[p]? = some (.ins "Keeper" (kF2 t w s (T2.length + 3))) := List.getElem?_set_self (by simp; omega)
          have q0 := set_ne_get (z := .ins "Keeper" (kF2 t w s (T2.length + 3))) p3 (dk0n (S := T2) (d := k.puts []))
          have q1 := set_ne_get (z := .ins "Keeper" (kF2 t w s (T2.length + 3))) p3 (dk1n (S := T2) (d := k.puts []))
          have q2 := set_ne_get (z := .ins "Keeper" (kF2 t w s (T2.length + 3))) p3 (dk2n (S := T2) (d := k.puts []))
          have q3 := set_ne_get (z := .ins "Keeper" (kF2 t w s (T2.length + 3))) p3 (dk3n (S := T2) (d := k.puts []))
          simp [-List.lookup_eq_none_iff, p3, e2]
          generalize hT3 : (T2 ++ dkC T2.length (k.puts [])).set p (.ins "Keeper" (kF2 t w s (T2.length + 3))) = T3 at *
          refine ⟨by simp [fputD], ?_⟩
          simp [-List.lookup_eq_none_iff, p4, kF2_ok.m _ (show ("come_up" : Str) ∈ kMeths by decide +kernel)]
          refine ⟨_, t, w, s, T2.length + 3, T2.length, T2.length + 1, T2.length + 2, k, wh, h, p4, .inl rfl, nd5.mpr (by omega), q3, q0, q1, q2, kf, hG, ?_⟩
          intro d' S' hMd hKp hKA
          have ho : ∀ x ∈ [p, T2.length + 3, T2.length, T2.length + 1, T2.length + 2], x = p ∨ S.length ≤ x := by
            intro x hx
            simp only [List.mem_cons, List.not_mem_nil, or_false] at hx
            rcases hx with rfl | rfl | rfl | rfl | rfl
            · exact .inl rfl
            all_goals exact .inr (by omega)
          refine .inl (hx d' _ S' hMd (K3.trans hKp fun x hx => (ho x hx).imp (fun y => by simp [y]) id) ho hKA)
        · rw [if_neg hr] at hx
          exact .inr ⟨(Classical.em (Rises (things qs))).elim (fun h1 => .inr (Int.lt_of_not_ge fun h2 => hr ⟨h1, h2⟩)) .inl, .inl hx⟩
  · exact h.elim
def w_put_r1 : WS :=
  wsSeq (wsIf (wNot (wMeth "Keeper" "write_all" sp_Keeper_write_all (wVar 0) [wVar 4, wVar 3] [])) (wsRet (wVar 3)) (wsNil)) w_put_tail
def w_put_r0 : WS :=
  wsSeq (wsSet 7 (wCompR1 [8] (tN 8) (wB bLen [wVar 4]) (wOp pEq (wOp pIx (wOp pIx (wVar 4) (wVar 8)) (ret (.int 0))) (ret (.int 2))) (wVar 8))) w_put_r1
theorem filterMap_if {α β : Type} (p : α → Bool) (g : α → β) : ∀ l : List α, (l.filterMap fun a => if p a = true then some (g a) else none) = (l.filter p).map g
  | [] => rfl
  | a :: l => by
    rw [List.filterMap_cons, List.filter_cons, filterMap_if p g l]
    by_cases h : p a = true <;> simp [h]
theorem sgn_fm (ws : List DW) : ((List.range ws.length).filterMap fun k => if decide ((ws[k]?).map (·.1) = some 2) = true then some (D.int (k : Nat)) else none) = (sgn ws).map fun k => D.int (k : Nat) := filterMap_if _ _ _
theorem growW_len {d : Dk} {t w s wh : Int} {h : Nat} (o : DkOn d t w s wh h) : (growW d w wh h).length ≤ 1000 := by
  have hlo := o.len (1 - wh)
  have hsl := o.shLen
  have z := o.zle o.ht
  have hth := things_le (shOn d w wh h)
  unfold growW growV
  have : (fullN (d.ar (1 - wh))).length ≤ (d.ar (1 - wh)).length := by unfold fullN; exact Nat.le_trans (List.length_filter_le _ _) (by simp)
  simp [List.length_zip]
  omega
theorem putDk_len {d : Dk} {t w s wh key am : Int} {h : Nat} {ws : List DW} (o : DkOn d t w s wh h) (e : putDk t w s d wh h key am = some ws) : ws.length ≤ 3000 := by
  have hsl := o.shLen
  have z := o.zle o.ht
  unfold putDk at e
  split at e
  · obtain ⟨v, hv, rfl⟩ := Option.map_eq_some_iff.mp e
    have h1 := putW_len hv
    have h2 := growW_len o
    have h3 : (shOn (d.puts (growW d w wh h)) w (1 - wh) (h + 1)).length ≤ ((d.puts (growW d w wh h)).ar (1 - wh)).length := by unfold shOn; rw [List.length_take]; omega
    have pl := puts_len d (growW d w wh h)
    have h4 : (((d.puts (growW d w wh h)).ar (1 - wh)).length : Int) = szI w t.toNat := by
      unfold Dk.ar
      split
      · rw [pl.1]; exact o.la
      · rw [pl.2]; exact o.lb
    rw [List.length_append, List.length_map]
    omega
  · obtain ⟨v, hv, rfl⟩ := Option.map_eq_some_iff.mp e
    have h1 := putW_len hv
    rw [List.length_map]
    omega
theorem dw_at {ws : List DW} {i : Nat} (h : i < ws.length) : atI (ws.map dwE) (i : Int) = some (dwE ws[i]) := by
  rw [atI_lt (by omega) (by simpa using h)]
  simp
theorem put_r1 {T : Store} {p q i j l m : Nat} {t w s wh : Int} {h : Nat} {d : Dk} {c : Cnt} {key : Int} {ws : List DW} {DD : DEnds} {E : PX} {a1 a2 : Option D} {mo : D} (X : KpX T p q i j l t w s d c) (o : DkOn d t w s wh h) (hok : ∀ x ∈ ws, OkD d x) (hmo : moOk mo) (hlm : p < m ∧ q < m ∧ i < m ∧ j < m ∧ l < m) (hm : T[m]? = some (dwp ws)) (hsh : T[m + 1]? = some (shp (shOn d w wh h))) (hsg : T[m + 2]? = some (.lst ((sgn ws).map fun k => D.int (k : Nat)))) (hw : ws.length ≤ 3000)
    (hq : match brk mo ws.length with
      | none => ∀ T' fp', Kps T T' [p, q, i, j, l] → (∀ x ∈ fp', x ∈ [p, q, i, j, l] ∨ T.length ≤ x) → KpAt T' p fp' t w s (d.puts ws) (cntPut w wh h d key ws c) → DD.rt (.int ws.length) T'
      | some k => ∃ wh' h', DkF t w wh' h' (d.puts (ws.take k)) ∧ ∀ d' T' fp', MendD w wh' h' (d.puts (ws.take k)) d' → Kps T T' [p, q, i, j, l] → (∀ x ∈ fp', x ∈ [p, q, i, j, l] ∨ T.length ≤ x) → KpAt T' p fp' t w s d' (upC w s wh' h' d') → DD.rt mo T') :
    w_put_r1 [some (.ref p), a1, a2, some mo, some (.ref m), some (.ref (m + 1)), some (.bl (decide (placeN (shOn d w wh h) key = none))), some (.ref (m + 2)), none, none] T DD E := by
  have hsl := o.shLen
  have z := o.zle o.ht
  have hnf : ∀ x, m ≤ x → x ∉ [p, q, i, j, l] := by intro x hx; simp; omega
  show wsSeq _ w_put_tail _ _ _ _
  simp [-List.lookup_eq_none_iff, X.2.1, kFs_no (show ("write_all" : Str) ∈ kMeths by decide +kernel)]
  refine ⟨_, t, w, s, d, c, ws, X.at, hnf m (by omega), hm, hok, hmo, o.good, ?_⟩
  cases e2 : brk mo ws.length with
  | none =>
    rw [e2] at hq
    intro S' fp' k1 k2 k3
    obtain ⟨q', i', j', l', rfl, X'⟩ := k3.x
    simp
    refine put_tail X' (by omega) (rises_noEqD o.ris) (k1.get hm (hnf _ (by omega))) (k1.get hsh (hnf _ (by omega))) (k1.get hsg (hnf _ (by omega))) (by omega) fun T' K' Y' => ?_
    refine hq T' _ (k1.trans K' (fun x hx => ?_)) k2 Y'.at
    simp at hx; subst hx; exact .inl (by simp)
  | some k =>
    rw [e2] at hq
    obtain ⟨wh', h', hdf, hb⟩ := hq
    refine ⟨wh', h', hdf, ?_⟩
    intro d' S' fp' hMd k1 k2 k3
    simp
    exact hb d' S' fp' hMd k1 k2 k3
theorem put_r0 {T : Store} {p q i j l m : Nat} {t w s wh : Int} {h : Nat} {d : Dk} {c : Cnt} {key : Int} {ws : List DW} {DD : DEnds} {E : PX} {a1 a2 : Option D} {mo : D} (X : KpX T p q i j l t w s d c) (o : DkOn d t w s wh h) (hok : ∀ x ∈ ws, OkD d x) (hmo : moOk mo) (hlm : p < m ∧ q < m ∧ i < m ∧ j < m ∧ l < m) (hT : T.length = m + 2) (hm : T[m]? = some (dwp ws)) (hsh : T[m + 1]? = some (shp (shOn d w wh h))) (hw : ws.length ≤ 3000)
    (hq : match brk mo ws.length with
      | none => ∀ T' fp', Kps T T' [p, q, i, j, l] → (∀ x ∈ fp', x ∈ [p, q, i, j, l] ∨ T.length ≤ x) → KpAt T' p fp' t w s (d.puts ws) (cntPut w wh h d key ws c) → DD.rt (.int ws.length) T'
      | some k => ∃ wh' h', DkF t w wh' h' (d.puts (ws.take k)) ∧ ∀ d' T' fp', MendD w wh' h' (d.puts (ws.take k)) d' → Kps T T' [p, q, i, j, l] → (∀ x ∈ fp', x ∈ [p, q, i, j, l] ∨ T.length ≤ x) → KpAt T' p fp' t w s d' (upC w s wh' h' d') → DD.rt mo T') :
    w_put_r0 [some (.ref p), a1, a2, some mo, some (.ref m), some (.ref (m + 1)), some (.bl (decide (placeN (shOn d w wh h) key = none))), none, none, none] T DD E := by
  show wsSeq _ w_put_r1 _ _ _ _
  simp [hm]
  refine ⟨by omega, ?_⟩
  refine comp_range (fun k => if decide ((ws[k]?).map (·.1) = some 2) = true then some (D.int (k : Nat)) else none) (fun k hk N hN => ?_) ?_
  · have hk2 : ws[k]? = some ws[k] := List.getElem?_eq_getElem hk
    simp [hm, dw_at hk, dwE, jx0] at hN ⊢
    simp [hk2] at hN
    by_cases h2 : ws[k].1 = 2
    · rw [if_pos h2] at hN
      exact ⟨_, jx00, by rw [h2]; exact .inr ⟨rfl, hN⟩⟩
    · rw [if_neg h2] at hN
      exact ⟨_, jx00, .inl ⟨by rw [decide_eq_false h2], hN⟩⟩
  · rw [sgn_fm, hT]
    have ho : ∀ fp' : List Nat, (∀ x ∈ fp', x ∈ [p, q, i, j, l] ∨ (T ++ [Cell.lst ((sgn ws).map fun k => D.int (k : Nat))]).length ≤ x) → ∀ x ∈ fp', x ∈ [p, q, i, j, l] ∨ T.length ≤ x := fun fp' hx x hm => (hx x hm).imp id (fun y => by simp at y; omega)
    refine put_r1 X.app o hok hmo hlm (app_get hm) (app_get hsh) (by rw [List.getElem?_append_right (by omega), hT]; simp) hw ?_
    cases e2 : brk mo ws.length with
    | none =>
      rw [e2] at hq
      intro T' fp' k1 k2 k3
      exact hq T' fp' (Kps.app.trans k1 (fun x hx => .inl hx)) (ho fp' k2) k3
    | some k =>
      rw [e2] at hq
      obtain ⟨wh', h', hdf, hb⟩ := hq
      refine ⟨wh', h', hdf, fun d' T' fp' hMd k1 k2 k3 => ?_⟩
      exact hb d' T' fp' hMd (Kps.app.trans k1 (fun x hx => .inl hx)) (ho fp' k2) k3
def w_put_q0 : WS :=
  wsSeq (wsSet 5 (wMeth "Keeper" "shelf" sp_Keeper_shelf (wVar 0) [] [])) (wsSeq (wsSet 6 (wOp1 pIsN (wCall sp_place_of [wVar 5, wVar 1] []))) w_put_r0)
theorem w_put_eq : w_Keeper_put = wsSeq (wsSet 4 (wCall sp_disk_put [wOp1 (pFld "Keeper" "bounds") (wVar 0), wOp1 (pFld "Keeper" "slabs") (wVar 0), wVar 1, wVar 2] [])) w_put_q0 := rfl
theorem put_q0 {T : Store} {p q i j l m : Nat} {t w s wh : Int} {h : Nat} {d : Dk} {c : Cnt} {key : Int} {ws : List DW} {DD : DEnds} {E : PX} {a2 : Option D} {mo : D} (X : KpX T p q i j l t w s d c) (o : DkOn d t w s wh h) (hok : ∀ x ∈ ws, OkD d x) (hmo : moOk mo) (hlm : p < m ∧ q < m ∧ i < m ∧ j < m ∧ l < m) (hT : T.length = m + 1) (hm : T[m]? = some (dwp ws)) (hw : ws.length ≤ 3000)
    (hq : match brk mo ws.length with
      | none => ∀ T' fp', Kps T T' [p, q, i, j, l] → (∀ x ∈ fp', x ∈ [p, q, i, j, l] ∨ T.length ≤ x) → KpAt T' p fp' t w s (d.puts ws) (cntPut w wh h d key ws c) → DD.rt (.int ws.length) T'
      | some k => ∃ wh' h', DkF t w wh' h' (d.puts (ws.take k)) ∧ ∀ d' T' fp', MendD w wh' h' (d.puts (ws.take k)) d' → Kps T T' [p, q, i, j, l] → (∀ x ∈ fp', x ∈ [p, q, i, j, l] ∨ T.length ≤ x) → KpAt T' p fp' t w s d' (upC w s wh' h' d') → DD.rt mo T') :
    w_put_q0 [some (.ref p), some (.int key), a2, some mo, some (.ref m), none, none, none, none, none] T DD E := by
  have df : DkF t w wh h d := ⟨o.c, o.wh01, o.ht, o.la, o.lb⟩
  have hsl := df.shLen o.good
  show wsSeq _ (wsSeq _ w_put_r0) _ _ _ _
  simp [-List.lookup_eq_none_iff, X.2.1, kFs_no (show ("shelf" : Str) ∈ kMeths by decide +kernel)]
  refine ⟨_, t, w, s, q, d, wh, h, X.2.1, kFs_ok, X.dk, df, o.good, ?_⟩
  refine ⟨shOn d w wh h, by simp, by omega, ?_⟩
  have eN : isNon (optI (placeN (shOn d w wh h) key)) = decide (placeN (shOn d w wh h) key = none) := by cases placeN (shOn d w wh h) key <;> rfl
  show w_put_r0 [some (D.ref p), some (D.int key), a2, some mo, some (D.ref m), some (D.ref (List.length T)), some (D.bl (isNon (optI (placeN (shOn d w wh h) key)))), none, none, none] (T ++ [shp (shOn d w wh h)]) DD E
  rw [eN, hT]
  have hsh : (T ++ [shp (shOn d w wh h)])[m + 1]? = some (shp (shOn d w wh h)) := by rw [← hT]; simp
  have ho : ∀ fp' : List Nat, (∀ x ∈ fp', x ∈ [p, q, i, j, l] ∨ (T ++ [shp (shOn d w wh h)]).length ≤ x) → ∀ x ∈ fp', x ∈ [p, q, i, j, l] ∨ T.length ≤ x := fun fp' hx x hm => (hx x hm).imp id (fun y => by simp at y; omega)
  refine put_r0 X.app o hok hmo hlm (by simp [hT]) (app_get hm) hsh hw ?_
  cases e2 : brk mo ws.length with
  | none =>
    rw [e2] at hq
    intro T' fp' k1 k2 k3
    exact hq T' fp' (Kps.app.trans k1 (fun x hx => .inl hx)) (ho fp' k2) k3
  | some k =>
    rw [e2] at hq
    obtain ⟨wh', h', hdf, hb⟩ := hq
    refine ⟨wh', h', hdf, fun d' T' fp' hMd k1 k2 k3 => ?_⟩
    exact hb d' T' fp' hMd (Kps.app.trans k1 (fun x hx => .inl hx)) (ho fp' k2) k3
theorem put_top {T : Store} {p q i j l : Nat} {t w s wh : Int} {h : Nat} {d : Dk} {c : Cnt} {key am : Int} {DD : DEnds} {E : PX} {mo : D} (X : KpX T p q i j l t w s d c) (o : DkOn d t w s wh h)
   (hb : match putDk t w s d wh h key am with
    | some ws => w_put_q0 [some (.ref p), some (.int key), some (.int am), some mo, some (.ref T.length), none, none, none, none, none] (T ++ [dwp ws]) DD E
    | none => E "Full" [some (.ref p), some (.int key), some (.int am), some mo, none, none, none, none, none, none] T) :
    w_Keeper_put [some (.ref p), some (.int key), some (.int am), some mo, none, none, none, none, none, none] T DD E := by
  rw [w_put_eq]
  have hp := X.2.1
  refine ⟨_, _, hp, kFs_ok.b, ?_⟩
  refine ⟨_, _, hp, kFs_ok.s, ?_⟩
  refine ⟨d, wh, h, X.dk, o, ?_⟩
  cases e : putDk t w s d wh h key am with
  | none => rw [e] at hb; exact hb
  | some ws => rw [e] at hb; exact hb
theorem ob_Keeper_put : Ob n_Keeper_put sp_Keeper_put w_Keeper_put := by
  intro ds S Q E hS hd h
  unfold sp_Keeper_put at h
  split at h
  · rename_i p key am mo
    obtain ⟨fp, t, w, s, d, wh, h, c, hK, o, hmo, hb⟩ := h
    obtain ⟨q, i, j, l, rfl, X⟩ := id hK.x
    obtain ⟨l1, l2, l3, l4, l5⟩ := X.lt
    have e0 : startD n_Keeper_put [.ref p, .int key, .int am, mo] = [some (.ref p), some (.int key), some (.int am), some mo, none, none, none, none, none, none] := rfl
    rw [e0]
    refine put_top X o ?_
    cases e : putDk t w s d wh h key am with
    | none => rw [e] at hb; exact .inl hb
    | some ws =>
      rw [e] at hb
      obtain ⟨hok, hb⟩ := hb
      have hwl := putDk_len o e
      have ho : ∀ fp' : List Nat, (∀ x ∈ fp', x ∈ [p, q, i, j, l] ∨ (S ++ [dwp ws]).length ≤ x) → ∀ x ∈ fp', x ∈ [p, q, i, j, l] ∨ S.length ≤ x := fun fp' hx x hm => (hx x hm).imp id (fun y => by simp at y; omega)
      refine put_q0 X.app o hok hmo ⟨l1, l2, l3, l4, l5⟩ (by simp) (by simp) hwl ?_
      cases e2 : brk mo ws.length with
      | none =>
        rw [e2] at hb
        intro T' fp' k1 k2 k3
        exact .inl (hb T' fp' (Kps.app.trans k1 (fun x hx => .inl hx)) (ho fp' k2) k3)
      | some k =>
        rw [e2] at hb
        obtain ⟨wh', h', hdf, hb⟩ := hb
        refine ⟨wh', h', hdf, fun d' T' fp' hMd k1 k2 k3 => ?_⟩
        exact .inl (hb d' T' fp' hMd (Kps.app.trans k1 (fun x hx => .inl hx)) (ho fp' k2) k3)
  · exact h.elim
/-! ### the least and the greatest of a list of whole numbers -/
def bMinL : BPf
  | [.ref n] => fun _ S Q _ => ∃ ns : List Int, S[n]? = some (.lst (ns.map .int)) ∧ 0 < ns.length ∧ ∀ m, m ∈ ns → (∀ y ∈ ns, m ≤ y) → Q (.int m) S
  | _ => fail
def bMaxL : BPf
  | [.ref n] => fun _ S Q _ => ∃ ns : List Int, S[n]? = some (.lst (ns.map .int)) ∧ 0 < ns.length ∧ ∀ m, m ∈ ns → (∀ y ∈ ns, y ≤ m) → Q (.int m) S
  | _ => fail
section
variable {K : PySem.W.Frag} {mg : Str → Option Value} {WW : WX}
theorem pb_minL : PrB K mg WW bMinL (rMin K) := by
  intro φ ρ S σ H Q ds vs r h
  unfold bMinL at h
  split at h
  · obtain ⟨v, rfl, q0⟩ := r.one
    obtain ⟨rs, re, Q', E', ⟨ns, h1, h0, hq⟩, hn, hx⟩ := h
    obtain ⟨a1, v1, rfl, _, e1, q1, _⟩ := rs.lst h1 q0
    rw [rds_intsM q1] at e1
    exact ⟨a1, ns, rfl, SqL.of e1, h0, fun m h2 h3 => hn _ _ (hq m h2 h3) _ _ _ Ext.refl rs RD.int⟩
  · exact h.no.elim
theorem pb_maxL : PrB K mg WW bMaxL (rMax K) := by
  intro φ ρ S σ H Q ds vs r h
  unfold bMaxL at h
  split at h
  · obtain ⟨v, rfl, q0⟩ := r.one
    obtain ⟨rs, re, Q', E', ⟨ns, h1, h0, hq⟩, hn, hx⟩ := h
    obtain ⟨a1, v1, rfl, _, e1, q1, _⟩ := rs.lst h1 q0
    rw [rds_intsM q1] at e1
    exact ⟨a1, ns, rfl, SqL.of e1, h0, fun m h2 h3 => hn _ _ (hq m h2 h3) _ _ _ Ext.refl rs RD.int⟩
  · exact h.no.elim
end
section
variable {ρ : DEnv} {S : Store} {Q : PQ} {E : PX} {i : Nat}
@[simp] theorem e_minL : bMinL [.ref i] ρ S Q E = ∃ ns : List Int, S[i]? = some (.lst (ns.map .int)) ∧ 0 < ns.length ∧ ∀ m, m ∈ ns → (∀ y ∈ ns, m ≤ y) → Q (.int m) S := rfl
@[simp] theorem e_maxL : bMaxL [.ref i] ρ S Q E = ∃ ns : List Int, S[i]? = some (.lst (ns.map .int)) ∧ 0 < ns.length ∧ ∀ m, m ∈ ns → (∀ y ∈ ns, y ≤ m) → Q (.int m) S := rfl
end
/-! ### keepers made from good disks -/
theorem ePl_inj : ∀ a b : Pl, ePl.enc a = ePl.enc b → a = b
  | none, none, _ => rfl
  | some (a, b), some (c, d), h => by
    have h2 : D.tup [D.int a, D.int b] = D.tup [D.int c, D.int d] := h
    injection h2 with h2
    injection h2 with h3 h4
    injection h3 with h3
    injection h4 with h4
    injection h4 with h4
    rw [h3, h4]
  | none, some (a, b), h => by
    have h2 : D.tup [] = D.tup [D.int a, D.int b] := h
    injection h2 with h2
    cases h2
  | some (a, b), none, h => by
    have h2 : D.tup [D.int a, D.int b] = D.tup [] := h
    injection h2 with h2
    cases h2
theorem shp_inj {ps qs : List Pl} (h : shp ps = shp qs) : ps = qs := by
  have h2 : Cell.lst (ps.map ePl.enc) = Cell.lst (qs.map ePl.enc) := h
  injection h2 with h2
  exact (List.map_inj_right ePl_inj).mp h2
theorem DkAt.fn {S : Store} {n : Nat} {d d' : Dk} (h : DkAt S n d) (h' : DkAt S n d') : d = d' := by
  obtain ⟨i, j, l, h1, h2, h3, h4⟩ := h
  obtain ⟨i', j', l', g1, g2, g3, g4⟩ := h'
  rw [h1] at g1
  have e : Cell.lst [D.ref i, D.ref j, D.ref l] = Cell.lst [D.ref i', D.ref j', D.ref l'] := Option.some.inj g1
  injection e with e
  injection e with e1 e
  injection e with e2 e
  injection e with e3 e
  injection e1 with e1
  injection e2 with e2
  injection e3 with e3
  subst e1 e2 e3
  rw [h2] at g2
  rw [h3] at g3
  rw [h4] at g4
  have a := shp_inj (Option.some.inj g2)
  have b := shp_inj (Option.some.inj g3)
  have c := shp_inj (Option.some.inj g4)
  cases d
  cases d'
  simp_all
theorem tmD_pl {S : Store} : ∀ p : Pl, tmD S (ePl.enc p)
  | none => ⟨fun e h => by simp at h, [], .nil, rfl⟩
  | some (a, b) => ⟨fun e h => by
      simp at h
      rcases h with rfl | rfl <;> rfl, _, .cons (.int a) (.cons (.int b) .nil), rfl⟩
theorem tmK_dk {S : Store} {n : Nat} {d : Dk} (h : DkAt S n d) : tmK S (.ref n) := by
  obtain ⟨i, j, l, h1, h2, h3, h4⟩ := h
  have one : ∀ {m : Nat} {ps : List Pl}, S[m]? = some (shp ps) → tmL S (.ref m) := by
    intro m ps hm
    refine ⟨by simp [tyName, hm], fun xs hx x hxm => ?_⟩
    rw [hm] at hx
    cases hx
    obtain ⟨p, _, rfl⟩ := List.mem_map.mp hxm
    exact tmD_pl p
  refine ⟨by simp [tyName, h1], fun xs hx x hxm => ?_⟩
  rw [h1] at hx
  cases hx
  simp at hxm
  rcases hxm with rfl | rfl | rfl
  · exact one h2
  · exact one h3
  · exact one h4
theorem isB_bnd {t w s : Int} (g : Good t w s) : isB (bnd t w s) = true := by
  simpa [isB, bnd] using g
theorem init_ok {S : Store} {p n : Nat} {t w s wh : Int} {h : Nat} {d : Dk} {Q : PQ} {E : Str → Store → Prop} (hp : S[p]? = some (.ins "Keeper" [])) (dk : DkAt S n d) (df : DkF t w wh h d) (hG : Good t w s)
    (hm : ∀ qs, Mend (shOn d w wh h) qs → Rises (things qs) ∧ ((things qs).length : Int) ≤ capI w s h)
    (hq : ∀ d' fp S', MendD w wh h d d' → Kps S S' [p] → (∀ x ∈ fp, x = p ∨ S.length ≤ x) → KpAt S' p fp t w s d' (upC w s wh h d') → Q .non S') :
    sp_Keeper_init [.ref p, .tup [.int t, .int w, .int s], .ref n] S Q E := by
  have hb := isB_bnd hG
  refine ⟨hp, ?_, fun h => ?_, fun t' w' s' e g => ?_⟩
  · simp [tyOk, tyName]
  · rw [show D.tup [.int t, .int w, .int s] = bnd t w s from rfl, hb] at h
    cases h
  · cases e
    refine ⟨tmK_dk dk, fun hf => ?_, fun n' d' wh' h' e hn dk' df' qs hM => ?_⟩
    · rw [dkB_to dk df] at hf
      cases hf
    · cases e
      cases dk.fn dk'
      have e2 := df.1.symm.trans df'.1
      have e3 : wh = wh' ∧ h = h' := by (simp at e2; omega)
      obtain ⟨rfl, rfl⟩ := e3
      rw [if_pos (hm qs hM)]
      exact hq
theorem mendD_on {t w s wh : Int} {h : Nat} {d d' : Dk} (df : DkF t w wh h d) (hG : Good t w s) (hm : ∀ qs, Mend (shOn d w wh h) qs → Rises (things qs)) (hM : MendD w wh h d d') : DkOn d' t w s wh h ∧ Mend (shOn d w wh h) (shOn d' w wh h) := by
  obtain ⟨r, hr, rfl⟩ := hM
  cases r with
  | none =>
    have hM : Mend (shOn d w wh h) (shOn d w wh h) := .inl ⟨hr, rfl⟩
    exact ⟨⟨df.1, df.2.1, df.2.2.1, hG, df.2.2.2.1, df.2.2.2.2, hm _ hM⟩, hM⟩
  | some i =>
    obtain ⟨t1, ht⟩ := hr
    have e : shOn (d.put (wh, ((i : Nat) : Int), none)) w wh h = (shOn d w wh h).set i none := by
      have := shOn_put df.2.1 d (((i : Nat) : Int), (none : Pl)) w h
      simpa [tagW] using this
    have f := df.put (i := i)
    have hM : Mend (shOn d w wh h) (shOn (d.put (wh, ((i : Nat) : Int), none)) w wh h) := by rw [e]; exact .inr ⟨i, t1, ht, rfl⟩
    exact ⟨⟨f.1, f.2.1, f.2.2.1, hG, f.2.2.2.1, f.2.2.2.2, hm _ hM⟩, hM⟩
theorem DkOn.f {d : Dk} {t w s wh : Int} {h : Nat} (o : DkOn d t w s wh h) : DkF t w wh h d := ⟨o.c, o.wh01, o.ht, o.la, o.lb⟩
theorem sec_no {ps : List Pl} {r : Option Nat} (h : NoEq (things ps)) (hr : Sec ps r) : r = none := by
  cases r with
  | none => rfl
  | some i =>
    obtain ⟨t, ht⟩ := hr
    have hm := mend_none h (.inr ⟨i, t, ht, rfl⟩ : Mend ps (ps.set i none))
    have h1 := ht.1
    have hl := (List.getElem?_eq_some_iff.mp h1).1
    rw [← hm, List.getElem?_set_self hl] at h1
    cases h1
theorem mendD_same {t w s wh : Int} {h : Nat} {d d' : Dk} (o : DkOn d t w s wh h) (hM : MendD w wh h d d') : d' = d := by
  obtain ⟨r, hr, rfl⟩ := hM
  cases sec_no (rises_noEqD o.ris) hr
  rfl
/-! ### all that a keeper tells -/
def cntD (c : Cnt) : D := .tup [.int c.1, .int c.2.1, .int c.2.2.1, .int c.2.2.2.1, .int c.2.2.2.2]
def ShotAt (S : Store) (n : Nat) (d : Dk) (ts : List Th) (c : Cnt) (e o : Int) : Prop := ∃ i j, S[n]? = some (.lst [.ref i, .ref j, cntD c, .int e, .int o]) ∧ DkAt S i d ∧ S[j]? = some (thp ts)
def shotPy (d : Dk) (ts : List Th) (c : Cnt) (e o : Int) : PyData :=
  .list [.list [.list (d.a.map ePl.py), .list (d.b.map ePl.py), .list (d.c.map ePl.py)], .list (ts.map eTh.py), .tuple [.int c.1, .int c.2.1, .int c.2.2.1, .int c.2.2.2.1, .int c.2.2.2.2], .int e, .int o]
theorem dpy_shot {S : Store} {n : Nat} {d : Dk} {ts : List Th} {c : Cnt} {e o : Int} (h : ShotAt S n d ts c e o) : DPy S (.ref n) (shotPy d ts c e o) := by
  obtain ⟨i, j, h1, h2, h3⟩ := h
  exact .lst h1 (.cons (dpy_dk h2) (.cons (.lst h3 (dpys_map eTh S ts)) (.cons (.tup (.cons (.int _) (.cons (.int _) (.cons (.int _) (.cons (.int _) (.cons (.int _) .nil)))))) (.cons (.int _) (.cons (.int _) .nil)))))
theorem shaped_shot (d : Dk) (ts : List Th) (c : Cnt) (e o : Int) : SeqAt.shaped (shotPy d ts c e o) = true := by
  have h1 := depAll_map ePl d.a
  have h2 := depAll_map ePl d.b
  have h3 := depAll_map ePl d.c
  have h4 := depAll_map eTh ts
  unfold SeqAt.shaped shotPy
  rw [Bool.and_eq_true]
  refine ⟨by simp only [PyData.canLay0, PyData.canLayAll0, layAll_map ePl d.a, layAll_map ePl d.b, layAll_map ePl d.c, layAll_map eTh ts, Bool.and_self, Bool.true_and, Bool.and_true], decide_eq_true ?_⟩
  simp only [PyData.depth, PyData.depthAll]
  omega
theorem ne_shot {S : Store} {ρ : DEnv} {Q : PQ} {E : PX} {i j : Nat} {d : Dk} {ts : List Th} {c : Cnt} {e o : Int} (h : ShotAt S i d ts c e o) (h2 : ShotAt S j d ts c e o) (q : Q (.bl false) S) : pNe (.ref i) (.ref j) ρ S Q E :=
  pNe_gen ⟨_, _, dpy_shot h, dpy_shot h2, shaped_shot .., shaped_shot .., by simpa [shotPy, PyData.eqv, PyData.eqvAll, eqvAll_map] using q⟩
theorem ShotAt.kps {S S' : Store} {n : Nat} {d : Dk} {ts : List Th} {c : Cnt} {e o : Int} (h : ShotAt S n d ts c e o) (k : Kps S S' []) : ShotAt S' n d ts c e o := by
  obtain ⟨i, j, h1, ⟨a, b, l, g1, g2, g3, g4⟩, h3⟩ := h
  exact ⟨i, j, k.get h1 (by simp), ⟨a, b, l, k.get g1 (by simp), k.get g2 (by simp), k.get g3 (by simp), k.get g4 (by simp)⟩, k.get h3 (by simp)⟩
/-! ### drawn disks -/
theorem drawn_len {t w s h : Int} {ps : List Pl} (g : Good t w s) (hh : 0 ≤ h ∧ h ≤ t) (hpl : ps.length = 2 ^ h.toNat * w.toNat) : (ps.length : Int) = szI w h.toNat ∧ (ps.length : Int) ≤ 2 ^ t.toNat * w := by
  obtain ⟨g1, g2, g3, g4, g5, g6⟩ := g
  have hplz : (ps.length : Int) = szI w h.toNat := by
    unfold szI
    rw [hpl, Int.natCast_mul, Int.toNat_of_nonneg (show 0 ≤ w by omega)]
    simp
  refine ⟨hplz, ?_⟩
  rw [hplz]
  show szI w h.toNat ≤ szI w t.toNat
  have e := szI_split (w := w) (l := h.toNat) (h := t.toNat) (by omega)
  have p := pow10 (t.toNat - h.toNat) (by omega)
  have z := szI_pos (w := w) (l := h.toNat) (by omega) g3 (by omega)
  have := Int.mul_le_mul_of_nonneg_right p.1 (show 0 ≤ szI w h.toNat by omega)
  omega
theorem drawn_f {t w s h wh : Int} {ps a b : List Pl} (g : Good t w s) (hh : 0 ≤ h ∧ h ≤ t) (hwh : wh = 0 ∨ wh = 1) (hpl : ps.length = 2 ^ h.toNat * w.toNat) (ha : (a.length : Int) = 2 ^ t.toNat * w) (hb : (b.length : Int) = 2 ^ t.toNat * w)
    (ht0 : wh = 0 → a.take ps.length = ps) (ht1 : wh = 1 → b.take ps.length = ps) : DkF t w wh h.toNat ⟨a, b, [some (wh, h)]⟩ ∧ shOn ⟨a, b, [some (wh, h)]⟩ w wh h.toNat = ps := by
  have hplz := (drawn_len g hh hpl).1
  obtain ⟨g1, g2, g3, g4, g5, g6⟩ := g
  refine ⟨⟨by show [some (wh, h)] = _; rw [Int.toNat_of_nonneg hh.1], hwh, by omega, ha, hb⟩, ?_⟩
  have ez : zN w h.toNat = ps.length := by unfold zN; omega
  unfold shOn Dk.ar
  rw [ez]
  rcases hwh with rfl | rfl
  · simpa using ht0 rfl
  · simpa using ht1 rfl
theorem DkF.on {t w s wh : Int} {h : Nat} {d : Dk} (f : DkF t w wh h d) (g : Good t w s) (hr : Rises (things (shOn d w wh h))) : DkOn d t w s wh h := ⟨f.1, f.2.1, f.2.2.1, g, f.2.2.2.1, f.2.2.2.2, hr⟩
/-! ### for cell in [_law_spread(one) for one in ..] -/
theorem cells0 {t : Tg} {body : WS} {ρ : DEnv} {S : Store} {DD : DEnds} {E : PX} {ns : List Int} {i : Nat} {a b : Int} (h0 : ρ[0]? = some (some (.rol (ns.map .int)))) (hl : ns.length ≤ 63) (hi : i < ρ.length)
    (h : ∀ (cs : List Int) (sa : Nat) (G : Store), Dr cs → cs.length ≤ 64 → S.length ≤ sa → (S ++ G)[sa]? = some (.lst (cs.map .int)) → loopG (atL sa (cs.map .int)) t body (cs.map .int) ρ (S ++ G) DD E) :
    wsFor t (wComp [i] (tN i) (wOp pAdd (wLst [ret (.int 0)]) (wSl (wVar 0) (some (ret (.int a))) (some (ret (.int b))))) wYes (wCall sp_law_spread [wVar i] [])) body ρ S DD E := by
  have hz : ns.length ≤ sizeLine := Nat.le_trans hl (by decide)
  have hz3 : (cutD (ns.map D.int) (some a) (some b)).length ≤ ns.length := by simpa using cutD_length (ns.map D.int) (some a) (some b)
  have hz4 : (64 : Nat) ≤ sizeLine := by decide
  simp -implicitDefEqProofs only [e_for, e_comp, e_op, e_lst, e_ws1, e_ws0, e_rt, e_sl, e_var, h0, e_part1, e_slR]
  refine ⟨by simp, by simpa using hz, ?_⟩
  obtain ⟨C, hC⟩ : ∃ C, C = D.int 0 :: cutD (ns.map D.int) (some a) (some b) := ⟨_, rfl⟩
  refine ⟨[D.int 0], cutD (ns.map D.int) (some a) (some b), by simp, by simp, by simp; omega, ?_⟩
  rw [show [D.int 0] ++ cutD (ns.map D.int) (some a) (some b) = C from hC.symm]
  have hCi : ∀ x ∈ C, ∃ c, x = D.int c := by rw [hC]; exact ints_cons ints_cut
  have hCl : C.length ≤ 64 := by rw [hC]; simp; omega
  refine ⟨_, C, rfl, by simp [atL], comp_spread (by simp) (by simp [wipeD]; omega) hCi fun cs hc1 hc => ?_⟩
  refine ⟨_, cs.map .int, rfl, by simp [atL], ?_⟩
  have := h cs (S.length + 3) ([Cell.lst [D.int 0]] ++ [Cell.lst (cutD (ns.map D.int) (some a) (some b))] ++ [Cell.lst C] ++ [Cell.lst (cs.map .int)]) hc (by omega) (by omega) (by rw [List.getElem?_append_right (by omega), show S.length + 3 - S.length = 3 by omega]; rfl)
  simpa using this
theorem cells1 {t : Tg} {body : WS} {ρ : DEnv} {S : Store} {DD : DEnds} {E : PX} {ns : List Int} {i : Nat} {a b : Int} (h0 : ρ[0]? = some (some (.rol (ns.map .int)))) (hl : ns.length ≤ 63) (hi : i < ρ.length)
    (h : ∀ (cs : List Int) (sa : Nat) (G : Store), Dr cs → cs.length ≤ 63 → S.length ≤ sa → (S ++ G)[sa]? = some (.lst (cs.map .int)) → loopG (atL sa (cs.map .int)) t body (cs.map .int) ρ (S ++ G) DD E) :
    wsFor t (wComp [i] (tN i) (wSl (wVar 0) (some (ret (.int a))) (some (ret (.int b)))) wYes (wCall sp_law_spread [wVar i] [])) body ρ S DD E := by
  have hz : ns.length ≤ sizeLine := Nat.le_trans hl (by decide)
  have hz3 : (cutD (ns.map D.int) (some a) (some b)).length ≤ ns.length := by simpa using cutD_length (ns.map D.int) (some a) (some b)
  simp -implicitDefEqProofs only [e_for, e_comp, e_rt, e_sl, e_var, h0, e_part1, e_slR]
  obtain ⟨C, hC⟩ : ∃ C, C = cutD (ns.map D.int) (some a) (some b) := ⟨_, rfl⟩
  rw [← hC] at hz3 ⊢
  refine ⟨by simpa using hz, _, C, rfl, by simp [atL], comp_spread (by simp) (by simp [wipeD]; omega) (by rw [hC]; exact ints_cut) fun cs hc1 hc => ?_⟩
  refine ⟨_, cs.map .int, rfl, by simp [atL], ?_⟩
  have := h cs (S.length + 1) ([Cell.lst C] ++ [Cell.lst (cs.map .int)]) hc (by omega) (by omega) (by rw [List.getElem?_append_right (by omega), show S.length + 1 - S.length = 1 by omega]; rfl)
  simpa using this
def dueR (c : Int) : List Bool := [decide (c % 4 < 2), decide (1 < c % 4), false, true]
def Refuses (t w s : Int) (d : Dk) (wh : Int) (h : Nat) (key c : Int) : Prop := (c % 4 < 2 → putDk t w s d wh h key 3 = none) ∧ (¬ c % 4 < 2 → placeN (shOn d w wh h) key = none)
def sp_law_kinds : SPf
  | [.ref p, .int key, .int c], S, Q, _ => ∃ fp t w s d wh h cn, KpAt S p fp t w s d cn ∧ DkOn d t w s wh h ∧ Refuses t w s d wh h key c ∧ Q (.ref S.length) (S ++ [.lst ((dueR c).map .bl)])
  | _, _, _, _ => False
def sp_law_shot : SPf
  | [.ref p], S, Q, _ => ∃ fp t w s d wh h c, KpAt S p fp t w s d c ∧ DkOn d t w s wh h ∧ ∀ S' n, ShotAt S' n d (things (shOn d w wh h)) c (excessI (shOn d w wh h) w s h) (overI w s h (things (shOn d w wh h)).length) → Kps S S' [] → Q (.ref n) S'
  | _, _, _, _ => False
theorem len_law_kinds : ∀ ds S Q E, sp_law_kinds ds S Q E → ds.length = 3 := by
  intro ds S Q E h; unfold sp_law_kinds at h; split at h <;> first | rfl | exact h.elim
theorem len_law_shot : ∀ ds S Q E, sp_law_shot ds S Q E → ds.length = 1 := by
  intro ds S Q E h; unfold sp_law_shot at h; split at h <;> first | rfl | exact h.elim
abbrev n_law_kinds : List Str := ["keeper", "key", "cell", "kinds", "most", "e"]
def w_law_kinds : WS :=
  wsSeq (wsSet 3 (wLst [])) (wsSeq (wsSet 4 (wOp pIx (wLst [ret (.int 0), ret (.int 1), ret (.int 1000)]) (wOp pMod (wOp pDiv (wVar 2) (ret (.int 4))) (ret (.int 3))))) (wsSeq (wsTryAs 5 ["Full", "NoKey"] (wsIf (wOp pEq (wOp pMod (wVar 2) (ret (.int 4))) (ret (.int 0))) (wsExpr (wMeth "Keeper" "put" sp_Keeper_put (wVar 0) [wVar 1, ret (.int 3)] [.non])) (wsIf (wOp pEq (wOp pMod (wVar 2) (ret (.int 4))) (ret (.int 1))) (wsExpr (wMeth "Keeper" "put" sp_Keeper_put (wVar 0) [wVar 1, ret (.int 3), wVar 4] [])) (wsIf (wOp pEq (wOp pMod (wVar 2) (ret (.int 4))) (ret (.int 2))) (wsExpr (wMeth "Keeper" "take" sp_Keeper_take (wVar 0) [wVar 1] [.non])) (wsExpr (wMeth "Keeper" "take" sp_Keeper_take (wVar 0) [wVar 1, wVar 4] []))))) (fun c a => wsSeq (wsSet 3 (wLst [wIsE 5 a (isub c "Full"), wIsE 5 a (isub c "NoKey"), wIsE 5 a (isub c "BadBounds" || (isub c "BadDisk" || (isub c "NoText" || (isub c "NoRow" || false))))])) (wsExpr (wM "list" mAppend (wVar 3) [wIsE 5 a true])))) (wsRet (wVar 3))))

abbrev n_law_shot : List Str := ["keeper"]
def w_law_shot : WS :=
  wsRet (wLst [wMeth "Keeper" "disk" sp_Keeper_disk (wVar 0) [] [], wMeth "Keeper" "rows" sp_Keeper_rows (wVar 0) [] [], wMeth "Keeper" "counts" sp_Keeper_counts (wVar 0) [] [], wMeth "Keeper" "excess" sp_Keeper_excess (wVar 0) [] [], wMeth "Keeper" "over" sp_Keeper_over (wVar 0) [] []])

abbrev n_law : List Str := ["script", "bounds", "some", "height", "full", "shelf", "keeper", "keys", "thing", "cell", "one", "key", "before", "due"]
def w_law_r1 : WS :=
  wsSeq (wsSet 13 (wLst [wOp pLt (wOp pMod (wVar 9) (ret (.int 4))) (ret (.int 2)), wOp pGt (wOp pMod (wVar 9) (ret (.int 4))) (ret (.int 1)), ret (.bl false), ret (.bl true)])) (wsIf (wOr (wOp pNe (wCall sp_law_kinds [wVar 6, wVar 11, wVar 9] []) (wVar 13)) (wOp pNe (wCall sp_law_shot [wVar 6] []) (wVar 12))) (wsRet (ret (.bl false))) (wsNil))
def w_law_r2 : WS :=
  wsIf (wAnd (wOp pNotInList (wVar 11) (wVar 7)) (wOr (wOp pGt (wOp pMod (wVar 9) (ret (.int 4))) (ret (.int 1))) (wVar 4))) (wsSeq (wsSet 12 (wCall sp_law_shot [wVar 6] [])) (w_law_r1)) (wsNil)
def w_law_r3 : WS :=
  wsSeq (wsFor (tN 9) (wComp [10] (tN 10) (wOp pAdd (wLst [ret (.int 0)]) (wSl (wVar 0) (some (ret (.int 2))) (some (ret (.int 32))))) (wYes) (wCall sp_law_spread [wVar 10] [])) (wsSeq (wsSet 11 (wOp pIx (wLst [wOp pMod (wVar 9) (wOp pPow (ret (.int 10)) (ret (.int 58))), wOp1 pNeg (wOp pMod (wVar 9) (wOp pPow (ret (.int 10)) (ret (.int 58))))]) (wOp pMod (wOp pDiv (wVar 9) (ret (.int 12))) (ret (.int 2))))) (wsSeq (wsIf (wAnd (wOp pNe (wVar 7) (wLst [])) (wOp pEq (wOp pMod (wOp pDiv (wVar 9) (ret (.int 24))) (ret (.int 2))) (ret (.int 0)))) (wsSet 11 (wOp pAdd (wOp pIx (wVar 7) (wOp pMod (wOp pDiv (wVar 9) (ret (.int 48))) (wB bLen [wVar 7]))) (ret (.int 1)))) (wsNil)) (w_law_r2)))) (wsRet (wOp pEq (wCall sp_law_kinds [wVar 6, wOp pSub (wB bMinL [wOp pAdd (wVar 7) (wLst [ret (.int 0)])]) (ret (.int 1)), ret (.int 2)] []) (wLst [ret (.bl false), ret (.bl true), ret (.bl false), ret (.bl true)])))
def w_law_r4 : WS :=
  wsSeq (wsSet 7 (wComp [8] (tN 8) (wVar 5) (wOp pNe (wVar 8) (wTup [])) (wOp pIx (wVar 8) (ret (.int 0))))) (w_law_r3)
def w_law_r5 : WS :=
  wsSeq (wsSet 6 (wMake "Keeper" sp_Keeper_init [wVar 1, wCall sp_law_disk [wVar 1, wVar 3, wOp pMod (wOp pDiv (wVar 2) (ret (.int 7))) (ret (.int 2)), wVar 5, wVar 2] []])) (w_law_r4)
def w_law_r6 : WS :=
  wsSeq (wsSet 5 (wCall sp_law_filled [wVar 1, wVar 3, wVar 2, wOp pSub (wCall sp_law_cap [wVar 1, wVar 3] []) (wOp pMul (wB bInt [wNot (wVar 4)]) (wOp pAdd (ret (.int 1)) (wOp pMod (wOp pDiv (wVar 2) (ret (.int 18))) (ret (.int 3)))))] [])) (w_law_r5)
def w_law_r7 : WS :=
  wsSeq (wsSet 3 (wOp pIx (wLst [wOp pMod (wOp pDiv (wVar 2) (ret (.int 2))) (wOp pAdd (wOp pIx (wVar 1) (ret (.int 0))) (ret (.int 1))), wOp pIx (wVar 1) (ret (.int 0))]) (wOp pMod (wVar 2) (ret (.int 2))))) (wsSeq (wsSet 4 (wAnd (wOp pEq (wVar 3) (wOp pIx (wVar 1) (ret (.int 0)))) (wOp pEq (wOp pMod (wOp pDiv (wVar 2) (ret (.int 9))) (ret (.int 2))) (ret (.int 1))))) (w_law_r6))
def w_law : WS :=
  wsSeq (wsSet 1 (wCall sp_law_bounds [wCall sp_law_cell [wVar 0, ret (.int 0)] []] [])) (wsSeq (wsSet 2 (wCall sp_law_spread [wCall sp_law_cell [wVar 0, ret (.int 1)] []] [])) (wsSeq (wsIf (wOp pGt (wOp pIx (wVar 1) (ret (.int 0))) (ret (.int 2))) (wsSet 1 (wTup [ret (.int 2), wOp pIx (wVar 1) (ret (.int 1)), wOp pIx (wVar 1) (ret (.int 2))])) (wsNil)) (w_law_r7)))

theorem ob_law_shot : Ob n_law_shot sp_law_shot w_law_shot := by
  intro ds S Q E hS hd h
  unfold sp_law_shot at h
  split at h
  · rename_i p
    obtain ⟨fp, t, w, s, d, wh, h, c, hK, o, hq⟩ := h
    obtain ⟨q, i, j, l, rfl, X⟩ := id hK.x
    simp [-List.lookup_eq_none_iff, w_law_shot, startD, X.2.1, kFs_no (show ("disk" : Str) ∈ kMeths by decide +kernel)]
    refine ⟨_, t, w, s, d, c, hK, ?_⟩
    have X1 := X.app (G := dkC S.length d)
    have hA : DkAt (S ++ dkC S.length d) (S.length + 3) d := ⟨_, _, _, dk3n, dk0n, dk1n, dk2n⟩
    have hL : (S ++ dkC S.length d).length = S.length + 4 := by simp [dkC]
    have K1 : Kps S (S ++ dkC S.length d) [] := Kps.app
    generalize S ++ dkC S.length d = T at *
    simp [-List.lookup_eq_none_iff, X1.2.1, kFs_no (show ("rows" : Str) ∈ kMeths by decide +kernel)]
    refine ⟨_, t, w, s, d, wh, h, c, X1.at, o.f, o.good, fun qs hm => ?_⟩
    rw [mend_none (rises_noEqD o.ris) hm]
    have X2 := X1.app (G := [thp (things (shOn d w wh h))])
    have hA2 := hA.app (G := [thp (things (shOn d w wh h))])
    have hT2 : (T ++ [thp (things (shOn d w wh h))])[T.length]? = some (thp (things (shOn d w wh h))) := by simp
    have K2 : Kps S (T ++ [thp (things (shOn d w wh h))]) [] := K1.trans (Kps.app (ex := [])) (by simp)
    generalize T ++ [thp (things (shOn d w wh h))] = U at *
    simp [-List.lookup_eq_none_iff, X2.2.1, kFs_no (show ("counts" : Str) ∈ kMeths by decide +kernel)]
    refine ⟨_, t, w, s, d, c, X2.at, ?_⟩
    simp [-List.lookup_eq_none_iff, X2.2.1, kFs_no (show ("excess" : Str) ∈ kMeths by decide +kernel)]
    refine ⟨_, t, w, s, q, d, wh, h, X2.2.1, kFs_ok, X2.dk, o.f, o.good, ?_⟩
    simp [-List.lookup_eq_none_iff, X2.2.1, kFs_no (show ("over" : Str) ∈ kMeths by decide +kernel)]
    refine ⟨_, t, w, s, q, d, wh, h, X2.2.1, kFs_ok, X2.dk, o.f, o.good, ?_⟩
    simp
    refine .inl (hq _ _ ⟨S.length + 3, T.length, by simp [cntD], hA2.app, app_get hT2⟩ (K2.trans (Kps.app (ex := [])) (by simp)))
  · exact h.elim
theorem ob_law_kinds : Ob n_law_kinds sp_law_kinds w_law_kinds := by
  intro ds S Q E hS hd h
  unfold sp_law_kinds at h
  split at h
  · rename_i p key c
    obtain ⟨fp, t, w, s, d, wh, h, cn, hK, o, ⟨hr1, hr2⟩, hq⟩ := h
    obtain ⟨q, i, j, l, rfl, X⟩ := id hK.x
    simp [-List.lookup_eq_none_iff, w_law_kinds, startD]
    obtain ⟨dm, hdm, m, rfl, hm0⟩ := atI_mem (xs := [D.int 0, D.int 1, D.int 1000]) (i := c / 4 % 3) (P := fun d => ∃ m : Int, d = .int m ∧ 0 ≤ m) (by omega) (by simp; omega) (by simp)
    refine ⟨_, hdm, ?_⟩
    have fin : ∀ (bs : List Bool) (a b : Cell) (G : Store), bs = dueR c → RetQ S.length Q (.ref (S.length + 1 + 1)) (S ++ a :: b :: .lst (bs.map .bl) :: G) := fun bs a b G e => by
      subst e
      exact ret_list hS (fun i hi => by rw [List.getElem?_append_left hi]) at2 (by omega) (cls_map eBool _ _) hq
    have hX := fun {G : Store} => X.app (G := G)
    have hc4 : 0 ≤ c % 4 ∧ c % 4 < 4 := by omega
    have mo0 : moOk .non := .inl rfl
    have mo1 : moOk (.int m) := .inr ⟨m, rfl, hm0⟩
    have pt : ∀ (mo : D) (G : Store) (Q2 : PQ) (E2 : Str → Store → Prop), moOk mo → c % 4 < 2 → E2 "Full" (S ++ G) → sp_Keeper_put [.ref p, .int key, .int 3, mo] (S ++ G) Q2 E2 := by
      intro mo G Q2 E2 hmo hc he
      refine ⟨_, t, w, s, d, wh, h, cn, hK.app, o, hmo, ?_⟩
      rw [hr1 hc]
      exact he
    have tk : ∀ (mo : D) (G : Store) (Q2 : PQ) (E2 : Str → Store → Prop), moOk mo → ¬ c % 4 < 2 → E2 "NoKey" (S ++ G) → sp_Keeper_take [.ref p, .int key, mo] (S ++ G) Q2 E2 := by
      intro mo G Q2 E2 hmo hc he
      refine ⟨_, t, w, s, d, wh, h, cn, hK.app, o, hmo, ?_⟩
      rw [hr2 hc]
      exact he
    have cl : ∀ (G : Store) (m : Str), m ∈ kMeths → ∃ fs, (S ++ G)[p]? = some (Cell.ins "Keeper" fs) ∧ List.lookup m fs = none := fun G m hm => ⟨_, hX.2.1, kFs_no hm⟩
    have eF : c % 4 < 2 → RetQ S.length Q (.ref (S ++ [Cell.lst [], Cell.lst [D.int 0, D.int 1, D.int 1000]]).length) (S ++ [Cell.lst [], Cell.lst [D.int 0, D.int 1, D.int 1000]] ++ [Cell.lst [D.bl (isub "Full" "Full"), D.bl (isub "Full" "NoKey"), D.bl (isub "Full" "BadBounds" || (isub "Full" "BadDisk" || (isub "Full" "NoText" || isub "Full" "NoRow"))), D.bl true]]) := fun hc => by
      have e1 : isub "Full" "Full" = true := by decide +kernel
      have e2 : isub "Full" "NoKey" = false := by decide +kernel
      have e3 : isub "Full" "BadBounds" = false := by decide +kernel
      have e4 : isub "Full" "BadDisk" = false := by decide +kernel
      have e5 : isub "Full" "NoText" = false := by decide +kernel
      have e6 : isub "Full" "NoRow" = false := by decide +kernel
      rw [e1, e2, e3, e4, e5, e6, List.append_assoc, List.length_append]
      exact fin [true, false, false, true] _ _ [] (by simp [dueR]; omega)
    have eN : ¬ c % 4 < 2 → RetQ S.length Q (.ref (S ++ [Cell.lst [], Cell.lst [D.int 0, D.int 1, D.int 1000]]).length) (S ++ [Cell.lst [], Cell.lst [D.int 0, D.int 1, D.int 1000]] ++ [Cell.lst [D.bl (isub "NoKey" "Full"), D.bl (isub "NoKey" "NoKey"), D.bl (isub "NoKey" "BadBounds" || (isub "NoKey" "BadDisk" || (isub "NoKey" "NoText" || isub "NoKey" "NoRow"))), D.bl true]]) := fun hc => by
      have e1 : isub "NoKey" "Full" = false := by decide +kernel
      have e2 : isub "NoKey" "NoKey" = true := by decide +kernel
      have e3 : isub "NoKey" "BadBounds" = false := by decide +kernel
      have e4 : isub "NoKey" "BadDisk" = false := by decide +kernel
      have e5 : isub "NoKey" "NoText" = false := by decide +kernel
      have e6 : isub "NoKey" "NoRow" = false := by decide +kernel
      rw [e1, e2, e3, e4, e5, e6, List.append_assoc, List.length_append]
      exact fin [false, true, false, true] _ _ [] (by simp [dueR]; omega)
    have iT : ∀ (G : Store) (xs : List D), isT "list" (G ++ [Cell.lst xs]) (D.ref G.length) := fun G xs => isT_list (xs := xs) (by simp)
    have m1 : ("put" : Str) ∈ kMeths := by decide +kernel
    have m2 : ("take" : Str) ∈ kMeths := by decide +kernel
    by_cases h0 : c % 4 = 0
    · exact .inr ⟨h0, cl _ _ m1, pt _ _ _ _ mo0 (by omega) ⟨.inl rfl, iT _ _, by decide, eF (by omega)⟩⟩
    refine .inl ⟨h0, ?_⟩
    by_cases h1 : c % 4 = 1
    · exact .inr ⟨h1, cl _ _ m1, pt _ _ _ _ mo1 (by omega) ⟨.inl rfl, iT _ _, by decide, eF (by omega)⟩⟩
    refine .inl ⟨h1, ?_⟩
    by_cases h2 : c % 4 = 2
    · exact .inr ⟨h2, cl _ _ m2, tk _ _ _ _ mo0 (by omega) ⟨.inr rfl, iT _ _, by decide, eN (by omega)⟩⟩
    · exact .inl ⟨h2, cl _ _ m2, tk _ _ _ _ mo1 (by omega) ⟨.inr rfl, iT _ _, by decide, eN (by omega)⟩⟩
  · exact h.elim
theorem ob_law : Ob n_law spLaw w_law := by
  intro ds S Q E hS hd ⟨ns, e, hl, e2, hq⟩
  subst e e2
  simp -implicitDefEqProofs [w_law, startD, atL, sp_law_cell, sp_law_bounds, sp_law_spread]
  have hz : ns.length ≤ sizeLine := Nat.le_trans hl (by decide)
  refine ⟨⟨ns, rfl⟩, fun t0 w s g0 => ⟨⟨ns, rfl⟩, fun sm hs0 hs1 => ?_⟩⟩
  simp [ix0, ix1, ix2]
  have r2 : ∀ (t h : Int) (full : Bool) (G : Store), Good t w s → 0 ≤ h ∧ h ≤ t → (full = true → h = t) → w_law_r6 [some (.rol (ns.map D.int)), some (.tup [.int t, .int w, .int s]), some (.int sm), some (.int h), some (.bl full), none, none, none, none, none, none, none, none, none] G { nx := fun x S' => RetQ 0 Q D.non S', rt := RetQ 0 Q } (fun c x S' => RetE 0 E c S') := by
    intro t h full G g hh hfull
    have gg := g
    obtain ⟨g1, g2, g3, g4, g5, g6⟩ := gg
    have hs20 : s ≤ 20 := by
      have : s * 1 ≤ s * (t + 2) := Int.mul_le_mul_of_nonneg_left (by omega) (by omega)
      omega
    have hcap := good_cap g hh.1 (show h ≤ t by omega)
    have hpw := pow10 h.toNat (by omega)
    have hcap2 : 1 * (2 * s) ≤ 2 ^ h.toNat * (w - s * h) := Int.mul_le_mul hpw.1 hcap (by omega) (by omega)
    have hcs := cap_le (w := w) (s := s) (l := h.toNat) (by omega)
    have hcI : capI w s h.toNat = 2 ^ h.toNat * (w - h * s) := by unfold capI; rw [Int.toNat_of_nonneg hh.1, Int.mul_comm s h]
    rw [Int.mul_comm s h] at hcap2
    rw [hcI] at hcs
    simp -implicitDefEqProofs [w_law_r6, sp_law_cap, sp_law_filled]
    generalize hcp : (2 : Int) ^ h.toNat * (w - h * s) = cap at *
    refine ⟨by omega, ?_⟩
    refine ⟨mulL (by split <;> omega), ⟨by omega, by omega, by omega, by omega⟩, fun ps hpl hst hm => ?_⟩
    have hsl := shelf_len hpl (by omega) g3 g4
    obtain ⟨hplz, hple⟩ := drawn_len g hh hpl
    have hfew : ((things ps).length : Int) ≤ cap := by
      rw [hm]
      have : 0 ≤ (if full = false then (1 : Int) else 0) * (1 + sm / 18 % 3) := Int.mul_nonneg (by split <;> omega) (by omega)
      omega
    have hfu : full = true → cap ≤ ((things ps).length : Int) := fun e => by
      rw [hm, e]
      unfold szI at hcs
      simp
      omega
    clear hm
    unfold w_law_r5
    have hwh : sm / 7 % 2 = 0 ∨ sm / 7 % 2 = 1 := by omega
    simp -implicitDefEqProofs [sp_law_disk, -List.append_assoc, -List.length_append]
    generalize sm / 7 % 2 = wh at *
    refine ⟨ps, by simp, g, hple, hwh, fun a b ha hb ht0 ht1 => ?_⟩
    obtain ⟨df, hsh⟩ := drawn_f g hh hwh hpl ha hb ht0 ht1
    have o : DkOn ⟨a, b, [some (wh, h)]⟩ t w s wh h.toNat := df.on g (by rw [hsh]; exact hst)
    generalize (⟨a, b, [some (wh, h)]⟩ : Dk) = d0 at *
    have hA : DkAt (G ++ [shp ps] ++ dkC (G ++ [shp ps]).length d0) ((G ++ [shp ps]).length + 3) d0 := ⟨_, _, _, dk3n, dk0n, dk1n, dk2n⟩
    have hP : (G ++ [shp ps] ++ dkC (G ++ [shp ps]).length d0)[G.length]? = some (shp ps) := app_get (by simp)
    have hAl : (G ++ [shp ps] ++ dkC (G ++ [shp ps]).length d0).length = G.length + 5 := by simp [dkC]
    generalize G ++ [shp ps] ++ dkC (G ++ [shp ps]).length d0 = X at *
    refine init_ok (n := (G ++ [shp ps]).length + 3) (d := d0) (wh := wh) (h := h.toNat) (by simp) hA.app df g (fun qs hq => ?_) fun d' fp S' hMd K1 hfp hK => ?_
    · rw [hsh] at hq
      rw [mend_none (rises_noEqD hst) hq, hcI]
      exact ⟨hst, hfew⟩
    refine ⟨rfl, ?_⟩
    cases mendD_same o hMd
    have hP1 : S'[G.length]? = some (shp ps) := K1.get (app_get hP) (by simp; omega)
    clear hA hP K1 hfp hMd
    generalize upC w s wh h.toNat d0 = cn at *
    generalize X.length = pk at *
    generalize G.length = ga at *
    unfold w_law_r4
    simp -implicitDefEqProofs
    refine ⟨_, hP1, comp_keys hP1 (by simp) ?_⟩
    have hK2 := hK.app (G := [Cell.lst ((keysOf ps).map .int)])
    have hky : (S' ++ [Cell.lst ((keysOf ps).map .int)])[S'.length]? = some (.lst ((keysOf ps).map .int)) := by simp
    generalize S'.length = ka at *
    generalize S' ++ [Cell.lst ((keysOf ps).map .int)] = Y at *
    unfold w_law_r3
    rw [e_seq]
    refine cells0 rfl hl (by simp) fun cs sa G2 hc hcl hsa hS3 => ?_
    have hK3 := hK2.app (G := G2)
    have hk3 := app_get (G := G2) hky
    generalize Y ++ G2 = T at *
    refine loop_list (fun i ρ S => S[sa]? = some (.lst (cs.map .int)) ∧ S[ka]? = some (.lst ((keysOf ps).map .int)) ∧ KpAt S pk fp t w s d0 cn ∧ ∃ a b c d, ρ = [some (.rol (ns.map D.int)), some (.tup [.int t, .int w, .int s]), some (.int sm), some (.int h), some (.bl full), some (.ref ga), some (.ref pk), some (.ref ka), none, a, none, b, c, d]) ⟨hS3, hk3, hK3, none, none, none, none, rfl⟩ (fun _ _ _ h => h.1) ?_ ?_
    · rintro i x ρ S N hx ⟨t1, t2, t3, e1, e2, e3, e4, rfl⟩ hN
      obtain ⟨c, hcm, rfl⟩ := List.mem_map.mp (List.mem_of_getElem? hx)
      have r1 : ∀ (k : Int) (G : Store), w_law_r2 [some (.rol (ns.map D.int)), some (.tup [.int t, .int w, .int s]), some (.int sm), some (.int h), some (.bl full), some (.ref ga), some (.ref pk), some (.ref ka), none, some (.int c), none, some (.int k), e3, e4] (S ++ G) { nx := N, rt := RetQ 0 Q } fun c x S' => RetE 0 E c S' := by
        intro k G
        have fin : ∀ (G : Store) a b, N [some (.rol (ns.map D.int)), some (.tup [.int t, .int w, .int s]), some (.int sm), some (.int h), some (.bl full), some (.ref ga), some (.ref pk), some (.ref ka), none, some (.int c), none, some (.int k), a, b] (S ++ G) := fun G a b => hN _ _ ⟨app_get t1, app_get t2, t3.app, _, _, _, _, rfl⟩
        have sh : ∀ (T : Store) (Q2 : PQ) (E2 : Str → Store → Prop), KpAt T pk fp t w s d0 cn → (∀ T' n, ShotAt T' n d0 (things ps) cn (excessI ps w s h.toNat) (overI w s h.toNat (things ps).length) → Kps T T' [] → Q2 (.ref n) T') → sp_law_shot [.ref pk] T Q2 E2 := fun T Q2 E2 hk hq => ⟨fp, t, w, s, d0, wh, h.toNat, cn, hk, o, fun S' n hs hk2 => by rw [hsh] at hs; exact hq S' n hs hk2⟩
        have rr : k ∉ keysOf ps → (1 < c % 4 ∨ full = true) → ∀ (T : Store) (n : Nat), Kps S T [] → ShotAt T n d0 (things ps) cn (excessI ps w s h.toNat) (overI w s h.toNat (things ps).length) → w_law_r1 [some (.rol (ns.map D.int)), some (.tup [.int t, .int w, .int s]), some (.int sm), some (.int h), some (.bl full), some (.ref ga), some (.ref pk), some (.ref ka), none, some (.int c), none, some (.int k), some (.ref n), e4] T { nx := N, rt := RetQ 0 Q } fun c x S' => RetE 0 E c S' := by
          intro hk hcf T n hT hsT
          have u1 := hT.get t1 (by simp)
          have u2 := hT.get t2 (by simp)
          have u3 := t3.kps hT (by simp)
          have hp : placeN ps k = none := Classical.byContradiction fun e => hk ((keys_place ps k).mpr e)
          have hrf : Refuses t w s d0 wh h.toNat k c := by
            refine ⟨fun hc2 => ?_, fun _ => by rw [hsh]; exact hp⟩
            have hf : full = true := hcf.resolve_left (by omega)
            have e1 := hfull hf
            have e2 := hfu hf
            have hg : grows t w s d0 wh h.toNat k = false := by
              unfold grows
              rw [decide_eq_false (show ¬ ((h.toNat : Nat) : Int) < t by omega)]; rfl
            unfold putDk
            rw [hg, hsh]
            unfold putW
            rw [hp, hcI]
            simp only [Bool.false_eq_true, if_false]
            rw [if_neg (show ¬ ((things ps).length : Int) < cap by omega)]; rfl
          simp -implicitDefEqProofs [w_law_r1]
          refine ⟨fp, t, w, s, d0, wh, h.toNat, cn, u3.app, o, hrf, ?_⟩
          have hd1 : (T ++ [Cell.lst [D.bl (decide (c % 4 < 2)), D.bl (decide (1 < c % 4)), D.bl false, D.bl true]])[T.length]? = some (.lst ((dueR c).map D.bl)) := by simp [dueR]
          have K1 : Kps T (T ++ [Cell.lst [D.bl (decide (c % 4 < 2)), D.bl (decide (1 < c % 4)), D.bl false, D.bl true]]) [] := Kps.app
          generalize T ++ [Cell.lst [D.bl (decide (c % 4 < 2)), D.bl (decide (1 < c % 4)), D.bl false, D.bl true]] = U at *
          refine ne_list eBool (xs := dueR c) (ys := dueR c) (by simp [eBool]) (app_get hd1) ?_
          simp -implicitDefEqProofs
          refine sh _ _ _ (u3.kps (K1.trans (Kps.app (ex := [])) (by simp)) (by simp)) fun V m hsV hV => ?_
          have KV := hT.trans (K1.trans ((Kps.app (ex := [])).trans hV (by simp)) (by simp)) (by simp)
          have hsn := hsT.kps (K1.trans ((Kps.app (ex := [])).trans hV (by simp)) (by simp))
          refine ne_shot hsV hsn ?_
          simp -implicitDefEqProofs
          exact hN _ _ ⟨KV.get t1 (by simp), KV.get t2 (by simp), t3.kps KV (by simp), _, _, _, _, rfl⟩
        simp -implicitDefEqProofs [w_law_r2]
        refine ⟨keysOf ps, app_get t2, ?_⟩
        split
        · exact fin _ _ _
        · rename_i hk
          split
          · rename_i hc2
            exact sh _ _ _ t3.app fun T n hs hT => rr hk (.inl hc2) T n ((Kps.app (ex := [])).trans hT (by simp)) hs
          · cases full with
            | false => exact .inl ⟨rfl, fin _ _ _⟩
            | true => exact .inr ⟨rfl, sh _ _ _ t3.app fun T n hs hT => rr hk (.inr rfl) T n ((Kps.app (ex := [])).trans hT (by simp)) hs⟩
      simp -implicitDefEqProofs
      obtain ⟨dk, hdk, k0, rfl, _⟩ := atI_mem (xs := [D.int (c % 10000000000000000000000000000000000000000000000000000000000), D.int (-(c % 10000000000000000000000000000000000000000000000000000000000))]) (i := c / 12 % 2) (P := fun d => ∃ m : Int, d = .int m ∧ True) (by omega) (by simp; omega) (by simp)
      refine ⟨_, hdk, ?_⟩
      refine ne_list eInt (xs := keysOf ps) (ys := []) (app_get t2) (by simp) ?_
      by_cases he : keysOf ps = []
      · simp -implicitDefEqProofs [he]
        exact r1 _ _
      · have hpos : 0 < (keysOf ps).length := List.length_pos_iff.mpr he
        simp -implicitDefEqProofs [he]
        by_cases h24 : c / 24 % 2 = 0
        · refine .inr ⟨h24, _, app_get t2, by simpa using hpos, _, app_get t2, ?_⟩
          have i0 := Int.emod_nonneg (c / 48) (show ((keysOf ps).length : Int) ≠ 0 by omega)
          have i1 := Int.emod_lt_of_pos (c / 48) (show (0 : Int) < (keysOf ps).length by omega)
          have i2 : (c / 48 % ((keysOf ps).length : Int)).toNat < (keysOf ps).length := by omega
          refine ⟨.int ((keysOf ps)[(c / 48 % ((keysOf ps).length : Int)).toNat]'i2), by rw [atI_lt (by simpa using i0) (by simpa using i1)]; simp, ?_⟩
          simp -implicitDefEqProofs
          exact r1 _ _
        · exact .inl ⟨h24, r1 _ _⟩
    · rintro ρ S ⟨t1, t2, t3, e1, e2, e3, e4, rfl⟩
      simp -implicitDefEqProofs
      have hkl : (keysOf ps).length ≤ ps.length := by
        have := things_le ps
        unfold keysOf
        simpa using this
      refine ⟨_, app_get t2, by simp [sizeLine]; omega, keysOf ps ++ [0], by simp, by simp, fun m hm hall => ?_⟩
      have hmk : m - 1 ∉ keysOf ps := fun hin => by
        have := hall (m - 1) (List.mem_append_left _ hin)
        omega
      have hp : placeN ps (m - 1) = none := Classical.byContradiction fun e => hmk ((keys_place ps (m - 1)).mpr e)
      refine ⟨fp, t, w, s, d0, wh, h.toNat, cn, t3.app, o, ⟨fun h => absurd h (by decide), fun _ => by rw [hsh]; exact hp⟩, ?_⟩
      refine eq_list eBool (xs := dueR 2) (ys := [false, true, false, true]) (by rw [List.getElem?_append_left (by simp)]; simp [eBool]) (by simp [eBool]) ?_
      rw [decide_eq_true (by decide)]
      exact .inr ⟨[], _, Gc.drop (S0 := []) rfl hS (by simp only [Cl]), hq⟩
  have r6 : ∀ t, Good t w s → w_law_r7 [some (.rol (ns.map D.int)), some (.tup [.int t, .int w, .int s]), some (.int sm), none, none, none, none, none, none, none, none, none, none, none] [] { nx := fun x S' => RetQ 0 Q D.non S', rt := RetQ 0 Q } (fun c x S' => RetE 0 E c S') := by
    intro t g
    have gg := g
    obtain ⟨g1, g2, g3, g4, g5, g6⟩ := gg
    simp -implicitDefEqProofs [w_law_r7, ix0]
    refine ⟨by omega, ?_⟩
    have hh : 0 ≤ sm / 2 % (t + 1) ∧ sm / 2 % (t + 1) ≤ t := ⟨Int.emod_nonneg _ (by omega), by have := Int.emod_lt_of_pos (sm / 2) (show 0 < t + 1 by omega); omega⟩
    obtain ⟨dm, hdm, h, rfl, hm01⟩ := atI_mem (xs := [D.int (sm / 2 % (t + 1)), D.int t]) (i := sm % 2) (P := fun d => ∃ m : Int, d = .int m ∧ (0 ≤ m ∧ m ≤ t)) (by omega) (by simp; omega) (by simp; omega)
    refine ⟨_, hdm, ?_⟩
    simp -implicitDefEqProofs
    split
    · rename_i e
      exact r2 t h _ _ g hm01 (fun _ => e)
    · exact r2 t h false _ g hm01 (fun e => by cases e)
  rcases Int.lt_or_le 2 t0 with h2 | h2
  · refine .inr ⟨h2, r6 2 ?_⟩
    obtain ⟨p1, p2, p3, p4, p5, p6⟩ := g0
    exact ⟨by omega, by omega, p3, p4, p5, by
      have : s * (2 + 2) ≤ s * (t0 + 2) := Int.mul_le_mul_of_nonneg_left (by omega) (by omega)
      omega⟩
  · exact .inl ⟨h2, r6 t0 g0⟩
/-! ### the text -/
def topS (i : Nat) : Stmt := PySem.Challenge.pw_gapshelf_k29_deeds_refused.main.body.getD i (.Pass ⟨0, 0, 0, 0⟩)
abbrev sis_whole : Stmt := topS 1
theorem scis_whole : FnScope n_is_whole ["thing"] (defScope sis_whole) := ⟨rfl, rfl, rfl, by decide +kernel, rfl, by decide +kernel, by decide +kernel⟩
abbrev sis_bounds : Stmt := topS 2
theorem scis_bounds : FnScope n_is_bounds ["thing"] (defScope sis_bounds) := ⟨rfl, rfl, rfl, by decide +kernel, rfl, by decide +kernel, by decide +kernel⟩
abbrev stwofold : Stmt := topS 3
theorem sctwofold : FnScope n_twofold ["height"] (defScope stwofold) := ⟨rfl, rfl, rfl, by decide +kernel, rfl, by decide +kernel, by decide +kernel⟩
abbrev splaces_of : Stmt := topS 4
theorem scplaces_of : FnScope n_places_of ["bounds", "height"] (defScope splaces_of) := ⟨rfl, rfl, rfl, by decide +kernel, rfl, by decide +kernel, by decide +kernel⟩
abbrev sstretch_of : Stmt := topS 5
theorem scstretch_of : FnScope n_stretch_of ["bounds", "height", "place"] (defScope sstretch_of) := ⟨rfl, rfl, rfl, by decide +kernel, rfl, by decide +kernel, by decide +kernel⟩
abbrev scap_of : Stmt := topS 6
theorem sccap_of : FnScope n_cap_of ["bounds", "height"] (defScope scap_of) := ⟨rfl, rfl, rfl, by decide +kernel, rfl, by decide +kernel, by decide +kernel⟩
abbrev scalm_of : Stmt := topS 7
theorem sccalm_of : FnScope n_calm_of ["bounds", "height"] (defScope scalm_of) := ⟨rfl, rfl, rfl, by decide +kernel, rfl, by decide +kernel, by decide +kernel⟩
abbrev ssecond_of : Stmt := topS 9
theorem scsecond_of : FnScope n_second_of ["shelf"] (defScope ssecond_of) := ⟨rfl, rfl, rfl, by decide +kernel, rfl, by decide +kernel, by decide +kernel⟩
abbrev sis_straight : Stmt := topS 10
theorem scis_straight : FnScope n_is_straight ["shelf"] (defScope sis_straight) := ⟨rfl, rfl, rfl, by decide +kernel, rfl, by decide +kernel, by decide +kernel⟩
abbrev smended : Stmt := topS 11
theorem scmended : FnScope n_mended ["shelf"] (defScope smended) := ⟨rfl, rfl, rfl, by decide +kernel, rfl, by decide +kernel, by decide +kernel⟩
abbrev sis_sound : Stmt := topS 12
theorem scis_sound : FnScope n_is_sound ["shelf"] (defScope sis_sound) := ⟨rfl, rfl, rfl, by decide +kernel, rfl, by decide +kernel, by decide +kernel⟩
abbrev srows_of : Stmt := topS 13
theorem scrows_of : FnScope n_rows_of ["shelf"] (defScope srows_of) := ⟨rfl, rfl, rfl, by decide +kernel, rfl, by decide +kernel, by decide +kernel⟩
abbrev sheld : Stmt := topS 14
theorem scheld : FnScope n_held ["shelf", "first", "behind"] (defScope sheld) := ⟨rfl, rfl, rfl, by decide +kernel, rfl, by decide +kernel, by decide +kernel⟩
abbrev sexcess_at : Stmt := topS 16
theorem scexcess_at : FnScope n_excess_at ["bounds", "low", "shelf"] (defScope sexcess_at) := ⟨rfl, rfl, rfl, by decide +kernel, rfl, by decide +kernel, by decide +kernel⟩
abbrev sexcess_of : Stmt := topS 17
theorem scexcess_of : FnScope n_excess_of ["bounds", "height", "shelf"] (defScope sexcess_of) := ⟨rfl, rfl, rfl, by decide +kernel, rfl, by decide +kernel, by decide +kernel⟩
abbrev sover_of : Stmt := topS 18
theorem scover_of : FnScope n_over_of ["bounds", "height", "shelf"] (defScope sover_of) := ⟨rfl, rfl, rfl, by decide +kernel, rfl, by decide +kernel, by decide +kernel⟩
abbrev stargets : Stmt := topS 28
theorem sctargets : FnScope n_targets ["many", "size"] (defScope stargets) := ⟨rfl, rfl, rfl, by decide +kernel, rfl, by decide +kernel, by decide +kernel⟩
abbrev smoves_of : Stmt := topS 29
theorem scmoves_of : FnScope n_moves_of ["places", "aims"] (defScope smoves_of) := ⟨rfl, rfl, rfl, by decide +kernel, rfl, by decide +kernel, by decide +kernel⟩
abbrev swrites_of : Stmt := topS 30
theorem scwrites_of : FnScope n_writes_of ["shelf", "moves"] (defScope swrites_of) := ⟨rfl, rfl, rfl, by decide +kernel, rfl, by decide +kernel, by decide +kernel⟩
abbrev splace_of : Stmt := topS 32
theorem scplace_of : FnScope n_place_of ["shelf", "key"] (defScope splace_of) := ⟨rfl, rfl, rfl, by decide +kernel, rfl, by decide +kernel, by decide +kernel⟩
abbrev sseat_of : Stmt := topS 33
theorem scseat_of : FnScope n_seat_of ["shelf", "key"] (defScope sseat_of) := ⟨rfl, rfl, rfl, by decide +kernel, rfl, by decide +kernel, by decide +kernel⟩
abbrev sheight_for : Stmt := topS 34
theorem scheight_for : FnScope n_height_for ["bounds", "height", "shelf", "key"] (defScope sheight_for) := ⟨rfl, rfl, rfl, by decide +kernel, rfl, by decide +kernel, by decide +kernel⟩
abbrev sevened : Stmt := topS 35
theorem scevened : FnScope n_evened ["bounds", "low", "shelf", "key", "amount"] (defScope sevened) := ⟨rfl, rfl, rfl, by decide +kernel, rfl, by decide +kernel, by decide +kernel⟩
abbrev sput_writes : Stmt := topS 36
theorem scput_writes : FnScope n_put_writes ["bounds", "height", "shelf", "key", "amount"] (defScope sput_writes) := ⟨rfl, rfl, rfl, by decide +kernel, rfl, by decide +kernel, by decide +kernel⟩
abbrev stake_writes : Stmt := topS 37
theorem sctake_writes : FnScope n_take_writes ["shelf", "key"] (defScope stake_writes) := ⟨rfl, rfl, rfl, by decide +kernel, rfl, by decide +kernel, by decide +kernel⟩
abbrev sis_pair : Stmt := topS 39
theorem scis_pair : FnScope n_is_pair ["thing"] (defScope sis_pair) := ⟨rfl, rfl, rfl, by decide +kernel, rfl, by decide +kernel, by decide +kernel⟩
abbrev sis_area : Stmt := topS 40
theorem scis_area : FnScope n_is_area ["thing", "size"] (defScope sis_area) := ⟨rfl, rfl, rfl, by decide +kernel, rfl, by decide +kernel, by decide +kernel⟩
abbrev sis_sign : Stmt := topS 41
theorem scis_sign : FnScope n_is_sign ["bounds", "thing"] (defScope sis_sign) := ⟨rfl, rfl, rfl, by decide +kernel, rfl, by decide +kernel, by decide +kernel⟩
abbrev sshelf_on : Stmt := topS 42
theorem scshelf_on : FnScope n_shelf_on ["bounds", "disk"] (defScope sshelf_on) := ⟨rfl, rfl, rfl, by decide +kernel, rfl, by decide +kernel, by decide +kernel⟩
abbrev sis_disk : Stmt := topS 43
theorem scis_disk : FnScope n_is_disk ["bounds", "thing"] (defScope sis_disk) := ⟨rfl, rfl, rfl, by decide +kernel, rfl, by decide +kernel, by decide +kernel⟩
abbrev swritten : Stmt := topS 44
theorem scwritten : FnScope n_written ["disk", "writes"] (defScope swritten) := ⟨rfl, rfl, rfl, by decide +kernel, rfl, by decide +kernel, by decide +kernel⟩
abbrev sgrow_writes : Stmt := topS 45
theorem scgrow_writes : FnScope n_grow_writes ["bounds", "disk"] (defScope sgrow_writes) := ⟨rfl, rfl, rfl, by decide +kernel, rfl, by decide +kernel, by decide +kernel⟩
abbrev sdisk_put : Stmt := topS 46
theorem scdisk_put : FnScope n_disk_put ["bounds", "disk", "key", "amount"] (defScope sdisk_put) := ⟨rfl, rfl, rfl, by decide +kernel, rfl, by decide +kernel, by decide +kernel⟩
abbrev sdisk_take : Stmt := topS 47
theorem scdisk_take : FnScope n_disk_take ["bounds", "disk", "key"] (defScope sdisk_take) := ⟨rfl, rfl, rfl, by decide +kernel, rfl, by decide +kernel, by decide +kernel⟩
abbrev sKeeper_init : Stmt := inClass (topS 49) 0
theorem scKeeper_init : FnScope n_Keeper_init ["self", "bounds", "disk"] (defScope sKeeper_init) := ⟨rfl, rfl, rfl, by decide +kernel, rfl, by decide +kernel, by decide +kernel⟩
abbrev sKeeper_shelf : Stmt := inClass (topS 49) 1
theorem scKeeper_shelf : FnScope n_Keeper_shelf ["self"] (defScope sKeeper_shelf) := ⟨rfl, rfl, rfl, by decide +kernel, rfl, by decide +kernel, by decide +kernel⟩
abbrev sKeeper_come_up : Stmt := inClass (topS 49) 2
theorem scKeeper_come_up : FnScope n_Keeper_come_up ["self"] (defScope sKeeper_come_up) := ⟨rfl, rfl, rfl, by decide +kernel, rfl, by decide +kernel, by decide +kernel⟩
abbrev sKeeper_excess : Stmt := inClass (topS 49) 3
theorem scKeeper_excess : FnScope n_Keeper_excess ["self"] (defScope sKeeper_excess) := ⟨rfl, rfl, rfl, by decide +kernel, rfl, by decide +kernel, by decide +kernel⟩
abbrev sKeeper_over : Stmt := inClass (topS 49) 4
theorem scKeeper_over : FnScope n_Keeper_over ["self"] (defScope sKeeper_over) := ⟨rfl, rfl, rfl, by decide +kernel, rfl, by decide +kernel, by decide +kernel⟩
abbrev sKeeper_write_all : Stmt := inClass (topS 49) 5
theorem scKeeper_write_all : FnScope n_Keeper_write_all ["self", "writes", "most"] (defScope sKeeper_write_all) := ⟨rfl, rfl, rfl, by decide +kernel, rfl, by decide +kernel, by decide +kernel⟩
abbrev sKeeper_put : Stmt := inClass (topS 49) 6
theorem scKeeper_put : FnScope n_Keeper_put ["self", "key", "amount", "most"] (defScope sKeeper_put) := ⟨rfl, rfl, rfl, by decide +kernel, rfl, by decide +kernel, by decide +kernel⟩
abbrev sKeeper_take : Stmt := inClass (topS 49) 7
theorem scKeeper_take : FnScope n_Keeper_take ["self", "key", "most"] (defScope sKeeper_take) := ⟨rfl, rfl, rfl, by decide +kernel, rfl, by decide +kernel, by decide +kernel⟩
abbrev sKeeper_rows : Stmt := inClass (topS 49) 9
theorem scKeeper_rows : FnScope n_Keeper_rows ["self"] (defScope sKeeper_rows) := ⟨rfl, rfl, rfl, by decide +kernel, rfl, by decide +kernel, by decide +kernel⟩
abbrev sKeeper_disk : Stmt := inClass (topS 49) 10
theorem scKeeper_disk : FnScope n_Keeper_disk ["self"] (defScope sKeeper_disk) := ⟨rfl, rfl, rfl, by decide +kernel, rfl, by decide +kernel, by decide +kernel⟩
abbrev sKeeper_counts : Stmt := inClass (topS 49) 11
theorem scKeeper_counts : FnScope n_Keeper_counts ["self"] (defScope sKeeper_counts) := ⟨rfl, rfl, rfl, by decide +kernel, rfl, by decide +kernel, by decide +kernel⟩
abbrev s_law_cell : Stmt := topS 51
theorem sc_law_cell : FnScope n_law_cell ["script", "k"] (defScope s_law_cell) := ⟨rfl, rfl, rfl, by decide +kernel, rfl, by decide +kernel, by decide +kernel⟩
abbrev s_law_spread : Stmt := topS 52
theorem sc_law_spread : FnScope n_law_spread ["cell"] (defScope s_law_spread) := ⟨rfl, rfl, rfl, by decide +kernel, rfl, by decide +kernel, by decide +kernel⟩
abbrev s_law_mixed : Stmt := topS 53
theorem sc_law_mixed : FnScope n_law_mixed ["cell", "k"] (defScope s_law_mixed) := ⟨rfl, rfl, rfl, by decide +kernel, rfl, by decide +kernel, by decide +kernel⟩
abbrev s_law_bounds : Stmt := topS 54
theorem sc_law_bounds : FnScope n_law_bounds ["cell"] (defScope s_law_bounds) := ⟨rfl, rfl, rfl, by decide +kernel, rfl, by decide +kernel, by decide +kernel⟩
abbrev s_law_two : Stmt := topS 55
theorem sc_law_two : FnScope n_law_two ["height"] (defScope s_law_two) := ⟨rfl, rfl, rfl, by decide +kernel, rfl, by decide +kernel, by decide +kernel⟩
abbrev s_law_filled : Stmt := topS 56
theorem sc_law_filled : FnScope n_law_filled ["bounds", "height", "cell", "many"] (defScope s_law_filled) := ⟨rfl, rfl, rfl, by decide +kernel, rfl, by decide +kernel, by decide +kernel⟩
abbrev s_law_area : Stmt := topS 57
theorem sc_law_area : FnScope n_law_area ["cell", "k", "size", "things"] (defScope s_law_area) := ⟨rfl, rfl, rfl, by decide +kernel, rfl, by decide +kernel, by decide +kernel⟩
abbrev s_law_disk : Stmt := topS 58
theorem sc_law_disk : FnScope n_law_disk ["bounds", "height", "which", "shelf", "cell"] (defScope s_law_disk) := ⟨rfl, rfl, rfl, by decide +kernel, rfl, by decide +kernel, by decide +kernel⟩
abbrev s_law_cap : Stmt := topS 59
theorem sc_law_cap : FnScope n_law_cap ["bounds", "height"] (defScope s_law_cap) := ⟨rfl, rfl, rfl, by decide +kernel, rfl, by decide +kernel, by decide +kernel⟩
abbrev s_law_kinds : Stmt := topS 60
theorem sc_law_kinds : FnScope n_law_kinds ["keeper", "key", "cell"] (defScope s_law_kinds) := ⟨rfl, rfl, rfl, by decide +kernel, rfl, by decide +kernel, by decide +kernel⟩
abbrev s_law_shot : Stmt := topS 61
theorem sc_law_shot : FnScope n_law_shot ["keeper"] (defScope s_law_shot) := ⟨rfl, rfl, rfl, by decide +kernel, rfl, by decide +kernel, by decide +kernel⟩
abbrev slaw : Stmt := topS 62
theorem sclaw : FnScope n_law ["script"] (defScope slaw) := ⟨rfl, rfl, rfl, by decide +kernel, rfl, by decide +kernel, by decide +kernel⟩
section
variable {P : Program} {w : World} {K : PySem.W.Frag} {mg : Str → Option Value} {base : Heap}
theorem calis_whole {f : Addr} {fd : FuncData} (B : Bi mg) (F : Fun K "is_whole" "is_whole" sis_whole f fd) (hm : mg "is_whole" = some (.ref f)) (b : Binds K fd ["thing"] []) :
    Cal P w K mg base "is_whole" 1 ["thing"] sp_is_whole :=
  cal_ok F hm scis_whole b w_is_whole len_is_whole (fun cdv A outer s H E hr =>
    ss_one (ss_ret (se_and (se_isi (T := "int") (by decide) (by rfl) B.isinstance (by rfl) B.int (by decide +kernel) (se_var 0)) (se_one (se_not (se_isi (T := "bool") (by decide) (by rfl) B.isinstance (by rfl) B.bool (by decide +kernel) (se_var 0))))))) ob_is_whole
theorem caltwofold {f : Addr} {fd : FuncData} (B : Bi mg) (F : Fun K "twofold" "twofold" stwofold f fd) (hm : mg "twofold" = some (.ref f)) (b : Binds K fd ["height"] []) :
    Cal P w K mg base "twofold" 1 ["height"] sp_twofold :=
  cal_ok F hm sctwofold b w_twofold len_twofold (fun cdv A outer s H E hr =>
    ss_cons (ss_set (i := 1) sctwofold.nd rfl (by first | exact Or.inl rfl | exact Or.inr rfl) (se_int))
    (ss_cons (ss_forR1 hp_def rfl (sg_name (i := 2) sctwofold.nd rfl (by first | exact Or.inl rfl | exact Or.inr rfl)) (by rfl) B.range (se_var 0) (ss_one (ss_set (i := 1) sctwofold.nd rfl (by first | exact Or.inl rfl | exact Or.inr rfl) (se_mul (se_var 1) (se_int)))))
    (ss_one (ss_ret (se_var 1))))) ob_twofold
theorem calsecond_of {f : Addr} {fd : FuncData} (B : Bi mg) (F : Fun K "second_of" "second_of" ssecond_of f fd) (hm : mg "second_of" = some (.ref f)) (b : Binds K fd ["shelf"] []) :
    Cal P w K mg base "second_of" 1 ["shelf"] sp_second_of :=
  cal_ok F hm scsecond_of b w_second_of len_second_of (fun cdv A outer s H E hr =>
    ss_cons (ss_set (i := 1) scsecond_of.nd rfl (by first | exact Or.inl rfl | exact Or.inr rfl) (se_tup (sa_nil)))
    (ss_cons (ss_forR1 hp_def rfl (sg_name (i := 2) scsecond_of.nd rfl (by first | exact Or.inl rfl | exact Or.inr rfl)) (by rfl) B.range (se_callB call_len pb_len (by rfl) B.len (by decide +kernel) (sa_cons (se_var 0) (sa_nil))) (ss_one (ss_if (st_ne hr.units (se_ix (se_var 0) (se_var 2) (fun _ _ => rfl)) (se_tup (sa_nil))) (ss_cons (ss_if (st_eq hr.units (se_ix (se_var 0) (se_var 2) (fun _ _ => rfl)) (se_var 1)) (ss_one (ss_ret (se_var 2))) (ss_nil))
    (ss_one (ss_set (i := 1) scsecond_of.nd rfl (by first | exact Or.inl rfl | exact Or.inr rfl) (se_ix (se_var 0) (se_var 2) (fun _ _ => rfl))))) (ss_nil))))
    (ss_one (ss_ret (se_non))))) ob_second_of
theorem calis_straight {f : Addr} {fd : FuncData} (B : Bi mg) (F : Fun K "is_straight" "is_straight" sis_straight f fd) (hm : mg "is_straight" = some (.ref f)) (b : Binds K fd ["shelf"] []) :
    Cal P w K mg base "is_straight" 1 ["shelf"] sp_is_straight :=
  cal_ok F hm scis_straight b w_is_straight len_is_straight (fun cdv A outer s H E hr =>
    ss_cons (ss_setLc (i := 1) rfl scis_straight.nd rfl rfl (sw_true rfl rfl rfl (by decide +kernel)) (pi_list (se_var 0)) (blkOk_by (own := [("thing", 2)]) (show blkC n_is_straight (defScope sis_straight) _ _ = true by decide +kernel)) rfl (fun _ _ _ _ _ => pg_name (i := 2) scis_straight.nd rfl (by first | exact Or.inl rfl | exact Or.inr rfl)) (lc_go (of_name _ 2)) (fun _ _ _ _ _ => sts_one (st_ne hr.units (se_var 2) (se_tup (sa_nil)))) (fun _ _ _ _ _ => se_var 2))
    (ss_cons (ss_forR2 hp_def rfl (sg_name (i := 3) scis_straight.nd rfl (by first | exact Or.inl rfl | exact Or.inr rfl)) (by rfl) B.range (se_int) (se_callB call_len pb_len (by rfl) B.len (by decide +kernel) (sa_cons (se_var 1) (sa_nil))) (ss_one (ss_if (st_ge (se_ix (se_ix (se_var 1) (se_sub (se_var 3) (se_int)) (fun _ _ => rfl)) (se_int) (fun _ _ => rfl)) (se_ix (se_ix (se_var 1) (se_var 3) (fun _ _ => rfl)) (se_int) (fun _ _ => rfl))) (ss_one (ss_ret (se_bl))) (ss_nil))))
    (ss_one (ss_ret (se_bl))))) ob_is_straight
theorem calheld {f : Addr} {fd : FuncData} (B : Bi mg) (F : Fun K "held" "held" sheld f fd) (hm : mg "held" = some (.ref f)) (b : Binds K fd ["shelf", "first", "behind"] []) :
    Cal P w K mg base "held" 1 ["shelf", "first", "behind"] sp_held :=
  cal_ok F hm scheld b w_held len_held (fun cdv A outer s H E hr =>
    ss_one (ss_ret (se_callB call_len pb_len (by rfl) B.len (by decide +kernel) (sa_cons (se_lc rfl scheld.nd (se_sl (se_var 0) (.some (se_var 1)) (.some (se_var 2))) (blkOk_by (own := [("thing", 3)]) (show blkC n_held (defScope sheld) _ _ = true by decide +kernel)) rfl (fun _ _ _ _ _ => pg_name (i := 3) scheld.nd rfl (by first | exact Or.inl rfl | exact Or.inr rfl)) (of_name _ 3) (fun _ _ _ _ _ => sts_one (st_ne hr.units (se_var 3) (se_tup (sa_nil)))) (fun _ _ _ _ _ => se_var 3)) (sa_nil))))) ob_held
theorem caltargets {f : Addr} {fd : FuncData} (B : Bi mg) (F : Fun K "targets" "targets" stargets f fd) (hm : mg "targets" = some (.ref f)) (b : Binds K fd ["many", "size"] []) :
    Cal P w K mg base "targets" 1 ["many", "size"] sp_targets :=
  cal_ok F hm sctargets b w_targets len_targets (fun cdv A outer s H E hr =>
    ss_one (ss_ret (se_lcR1 rfl sctargets.nd (by rfl) B.range (se_var 0) (blkOk_by (own := [("k", 2)]) (show blkC n_targets (defScope stargets) _ _ = true by decide +kernel)) rfl (fun _ _ _ _ _ => pg_name (i := 2) sctargets.nd rfl (by first | exact Or.inl rfl | exact Or.inr rfl)) (of_name _ 2) (fun _ _ _ _ _ => sts_nil) (fun _ _ _ _ _ => se_div (se_mul (se_var 2) (se_var 1)) (se_var 0))))) ob_targets
theorem calmoves_of {f : Addr} {fd : FuncData} (B : Bi mg) (F : Fun K "moves_of" "moves_of" smoves_of f fd) (hm : mg "moves_of" = some (.ref f)) (b : Binds K fd ["places", "aims"] []) :
    Cal P w K mg base "moves_of" 1 ["places", "aims"] sp_moves_of :=
  cal_ok F hm scmoves_of b w_moves_of len_moves_of (fun cdv A outer s H E hr =>
    ss_cons (ss_set (i := 2) scmoves_of.nd rfl (by first | exact Or.inl rfl | exact Or.inr rfl) (se_listZip rfl (by rfl) B.list (by rfl) B.zip (se_var 0) (se_var 1)))
    (ss_cons (ss_setLc (i := 3) rfl scmoves_of.nd rfl rfl (sw_true rfl rfl rfl (by decide +kernel)) (pi_list (se_var 2)) (blkOk_by (own := [("pair", 4)]) (show blkC n_moves_of (defScope smoves_of) _ _ = true by decide +kernel)) rfl (fun _ _ _ _ _ => pg_name (i := 4) scmoves_of.nd rfl (by first | exact Or.inl rfl | exact Or.inr rfl)) (lc_go (of_name _ 4)) (fun _ _ _ _ _ => sts_one (st_gt (se_ix (se_var 4) (se_int) (fun _ _ => rfl)) (se_ix (se_var 4) (se_int) (fun _ _ => rfl)))) (fun _ _ _ _ _ => se_var 4))
    (ss_cons (ss_setLc (i := 5) rfl scmoves_of.nd rfl rfl (sw_true rfl rfl rfl (by decide +kernel)) (pi_list (se_var 2)) (blkOk_by (own := [("pair", 4)]) (show blkC n_moves_of (defScope smoves_of) _ _ = true by decide +kernel)) rfl (fun _ _ _ _ _ => pg_name (i := 4) scmoves_of.nd rfl (by first | exact Or.inl rfl | exact Or.inr rfl)) (lc_go (of_name _ 4)) (fun _ _ _ _ _ => sts_one (st_lt (se_ix (se_var 4) (se_int) (fun _ _ => rfl)) (se_ix (se_var 4) (se_int) (fun _ _ => rfl)))) (fun _ _ _ _ _ => se_var 4))
    (ss_one (ss_ret (se_add (se_rev (se_var 3)) (se_var 5))))))) ob_moves_of
theorem calwrites_of {f : Addr} {fd : FuncData} (B : Bi mg) (F : Fun K "writes_of" "writes_of" swrites_of f fd) (hm : mg "writes_of" = some (.ref f)) (b : Binds K fd ["shelf", "moves"] []) :
    Cal P w K mg base "writes_of" 1 ["shelf", "moves"] sp_writes_of :=
  cal_ok F hm scwrites_of b w_writes_of len_writes_of (fun cdv A outer s H E hr =>
    ss_cons (ss_set (i := 2) scwrites_of.nd rfl (by first | exact Or.inl rfl | exact Or.inr rfl) (se_lst (sa_nil)))
    (ss_cons (ss_for hp_def rfl (sg_tup (is := [3, 4]) rfl (pgs_cons (pg_name (i := 3) scwrites_of.nd rfl (by first | exact Or.inl rfl | exact Or.inr rfl)) (pgs_cons (pg_name (i := 4) scwrites_of.nd rfl (by first | exact Or.inl rfl | exact Or.inr rfl)) (pgs_nil)))) (se_var 1) (ss_cons (ss_expr (se_append (se_var 2) (se_tup (sa_cons (se_var 4) (sa_cons (se_ix (se_var 0) (se_var 3) (fun _ _ => rfl)) (sa_nil))))))
    (ss_one (ss_expr (se_append (se_var 2) (se_tup (sa_cons (se_var 3) (sa_cons (se_tup (sa_nil)) (sa_nil)))))))))
    (ss_one (ss_ret (se_var 2))))) ob_writes_of
theorem calplace_of {f : Addr} {fd : FuncData} (B : Bi mg) (F : Fun K "place_of" "place_of" splace_of f fd) (hm : mg "place_of" = some (.ref f)) (b : Binds K fd ["shelf", "key"] []) :
    Cal P w K mg base "place_of" 1 ["shelf", "key"] sp_place_of :=
  cal_ok F hm scplace_of b w_place_of len_place_of (fun cdv A outer s H E hr =>
    ss_cons (ss_forR1 hp_def rfl (sg_name (i := 2) scplace_of.nd rfl (by first | exact Or.inl rfl | exact Or.inr rfl)) (by rfl) B.range (se_callB call_len pb_len (by rfl) B.len (by decide +kernel) (sa_cons (se_var 0) (sa_nil))) (ss_one (ss_if ((st_and (st_ne hr.units (se_ix (se_var 0) (se_var 2) (fun _ _ => rfl)) (se_tup (sa_nil))) (st_one (st_eq hr.units (se_ix (se_ix (se_var 0) (se_var 2) (fun _ _ => rfl)) (se_int) (fun _ _ => rfl)) (se_var 1)))).pt) (ss_one (ss_ret (se_var 2))) (ss_nil))))
    (ss_one (ss_ret (se_non)))) ob_place_of
theorem calseat_of {f : Addr} {fd : FuncData} (B : Bi mg) (F : Fun K "seat_of" "seat_of" sseat_of f fd) (hm : mg "seat_of" = some (.ref f)) (b : Binds K fd ["shelf", "key"] []) :
    Cal P w K mg base "seat_of" 1 ["shelf", "key"] sp_seat_of :=
  cal_ok F hm scseat_of b w_seat_of len_seat_of (fun cdv A outer s H E hr =>
    ss_cons (ss_set (i := 2) scseat_of.nd rfl (by first | exact Or.inl rfl | exact Or.inr rfl) (se_int))
    (ss_cons (ss_forR1 hp_def rfl (sg_name (i := 3) scseat_of.nd rfl (by first | exact Or.inl rfl | exact Or.inr rfl)) (by rfl) B.range (se_callB call_len pb_len (by rfl) B.len (by decide +kernel) (sa_cons (se_var 0) (sa_nil))) (ss_one (ss_if ((st_and (st_ne hr.units (se_ix (se_var 0) (se_var 3) (fun _ _ => rfl)) (se_tup (sa_nil))) (st_one (st_lt (se_ix (se_ix (se_var 0) (se_var 3) (fun _ _ => rfl)) (se_int) (fun _ _ => rfl)) (se_var 1)))).pt) (ss_one (ss_set (i := 2) scseat_of.nd rfl (by first | exact Or.inl rfl | exact Or.inr rfl) (se_var 3))) (ss_nil))))
    (ss_one (ss_ret (se_var 2))))) ob_seat_of
theorem calwritten {f : Addr} {fd : FuncData} (B : Bi mg) (F : Fun K "written" "written" swritten f fd) (hm : mg "written" = some (.ref f)) (b : Binds K fd ["disk", "writes"] []) :
    Cal P w K mg base "written" 1 ["disk", "writes"] sp_written :=
  cal_ok F hm scwritten b w_written len_written (fun cdv A outer s H E hr =>
    ss_cons (ss_setLc (i := 2) rfl scwritten.nd rfl rfl (sw_true rfl rfl rfl (by decide +kernel)) (pi_list (se_var 0)) (blkOk_by (own := [("part", 3)]) (show blkC n_written (defScope swritten) _ _ = true by decide +kernel)) rfl (fun _ _ _ _ _ => pg_name (i := 3) scwritten.nd rfl (by first | exact Or.inl rfl | exact Or.inr rfl)) (lc_go (of_name _ 3)) (fun _ _ _ _ _ => sts_nil) (fun _ _ _ _ _ => se_callTy call_list_of pb_list (by rfl) B.list (by decide +kernel) (sa_cons (se_var 3) (sa_nil))))
    (ss_cons (ss_for hp_def rfl (sg_tup (is := [4, 5, 6]) rfl (pgs_cons (pg_name (i := 4) scwritten.nd rfl (by first | exact Or.inl rfl | exact Or.inr rfl)) (pgs_cons (pg_name (i := 5) scwritten.nd rfl (by first | exact Or.inl rfl | exact Or.inr rfl)) (pgs_cons (pg_name (i := 6) scwritten.nd rfl (by first | exact Or.inl rfl | exact Or.inr rfl)) (pgs_nil))))) (se_var 1) (ss_one (ss_sub (se_ix (se_var 2) (se_var 4) (fun _ _ => rfl)) (se_var 5) (se_var 6))))
    (ss_one (ss_ret (se_var 2))))) ob_written
theorem calKeeper_counts {f : Addr} {fd : FuncData} (B : Bi mg) (F : Fun K "counts" "Keeper.counts" sKeeper_counts f fd) (cfKeeper : ClsF K mg "Keeper" ["bounds", "slabs", "many_puts", "many_moves", "many_laid", "first_excess", "first_over"]) :
    FnOk P w K mg base (L2.CX P w) 1 f fd ["self"] (spOf K mg sp_Keeper_counts) :=
  fn_ok F scKeeper_counts w_Keeper_counts len_Keeper_counts (fun cdv A outer s H E hr =>
    ss_one (ss_ret (se_tup (sa_cons (se_fld cfKeeper (by simp) (se_var 0)) (sa_cons (se_fld cfKeeper (by simp) (se_var 0)) (sa_cons (se_fld cfKeeper (by simp) (se_var 0)) (sa_cons (se_fld cfKeeper (by simp) (se_var 0)) (sa_cons (se_fld cfKeeper (by simp) (se_var 0)) (sa_nil))))))))) ob_Keeper_counts
theorem cal_law_cell {f : Addr} {fd : FuncData} (B : Bi mg) (F : Fun K "_law_cell" "_law_cell" s_law_cell f fd) (hm : mg "_law_cell" = some (.ref f)) (b : Binds K fd ["script", "k"] []) :
    Cal P w K mg base "_law_cell" 1 ["script", "k"] sp_law_cell :=
  cal_ok F hm sc_law_cell b w_law_cell len_law_cell (fun cdv A outer s H E hr =>
    ss_cons (ss_if (st_lt (se_var 1) (se_callB call_len pb_len (by rfl) B.len (by decide +kernel) (sa_cons (se_var 0) (sa_nil)))) (ss_one (ss_ret (se_ix (se_var 0) (se_var 1) (fun _ _ => rfl)))) (ss_nil))
    (ss_one (ss_ret (se_int)))) ob_law_cell
theorem cal_law_spread {f : Addr} {fd : FuncData} (B : Bi mg) (F : Fun K "_law_spread" "_law_spread" s_law_spread f fd) (hm : mg "_law_spread" = some (.ref f)) (b : Binds K fd ["cell"] []) :
    Cal P w K mg base "_law_spread" 1 ["cell"] sp_law_spread :=
  cal_ok F hm sc_law_spread b w_law_spread len_law_spread (fun cdv A outer s H E hr =>
    ss_cons (ss_set (i := 1) sc_law_spread.nd rfl (by first | exact Or.inl rfl | exact Or.inr rfl) (se_mod (se_mul (se_add (se_mod (se_var 0) (se_int)) (se_int)) (se_int)) (se_int)))
    (ss_one (ss_ret (se_add (se_mod (se_mul (se_var 1) (se_var 1)) (se_int)) (se_mul (se_mod (se_var 0) (se_pow (se_int) (se_int))) (se_int)))))) ob_law_spread
theorem cal_law_mixed {f : Addr} {fd : FuncData} (B : Bi mg) (F : Fun K "_law_mixed" "_law_mixed" s_law_mixed f fd) (hm : mg "_law_mixed" = some (.ref f)) (b : Binds K fd ["cell", "k"] []) :
    Cal P w K mg base "_law_mixed" 1 ["cell", "k"] sp_law_mixed :=
  cal_ok F hm sc_law_mixed b w_law_mixed len_law_mixed (fun cdv A outer s H E hr =>
    ss_cons (ss_set (i := 2) sc_law_mixed.nd rfl (by first | exact Or.inl rfl | exact Or.inr rfl) (se_mod (se_mul (se_add (se_mod (se_var 0) (se_int)) (se_int)) (se_int)) (se_int)))
    (ss_cons (ss_set (i := 2) sc_law_mixed.nd rfl (by first | exact Or.inl rfl | exact Or.inr rfl) (se_mod (se_add (se_add (se_mul (se_var 2) (se_var 2)) (se_mul (se_var 1) (se_int))) (se_int)) (se_int)))
    (ss_one (ss_ret (se_mod (se_mul (se_var 2) (se_var 2)) (se_int)))))) ob_law_mixed
theorem cal_law_two {f : Addr} {fd : FuncData} (B : Bi mg) (F : Fun K "_law_two" "_law_two" s_law_two f fd) (hm : mg "_law_two" = some (.ref f)) (b : Binds K fd ["height"] []) :
    Cal P w K mg base "_law_two" 1 ["height"] sp_law_two :=
  cal_ok F hm sc_law_two b w_law_two len_law_two (fun cdv A outer s H E hr =>
    ss_one (ss_ret (se_ix (se_lst (sa_cons (se_int) (sa_cons (se_int) (sa_cons (se_int) (sa_cons (se_int) (sa_cons (se_int) (sa_nil))))))) (se_var 0) (fun _ _ => rfl)))) ob_law_two
theorem calis_bounds {f : Addr} {fd : FuncData} (B : Bi mg) (F : Fun K "is_bounds" "is_bounds" sis_bounds f fd) (hm : mg "is_bounds" = some (.ref f)) (b : Binds K fd ["thing"] []) (cis_whole : Cal P w K mg base "is_whole" 1 ["thing"] sp_is_whole) :
    Cal P w K mg base "is_bounds" 2 ["thing"] sp_is_bounds :=
  cal_ok F hm scis_bounds b w_is_bounds len_is_bounds (fun cdv A outer s H E hr =>
    ss_cons (ss_if ((st_or (st_not (st_val (se_isi (T := "tuple") (by decide) (by rfl) B.isinstance (by rfl) B.tuple (by decide +kernel) (se_var 0)))) (st_one (st_ne hr.units (se_callB call_len pb_len (by rfl) B.len (by decide +kernel) (sa_cons (se_var 0) (sa_nil))) (se_int)))).pt) (ss_one (ss_ret (se_bl))) (ss_nil))
    (ss_cons (ss_forT hp_def rfl (sg_name (i := 1) scis_bounds.nd rfl (by first | exact Or.inl rfl | exact Or.inr rfl)) (se_var 0) (ss_one (ss_if (st_not (st_val (se_callC cis_whole hr (by decide) (by rfl) tk_def (sa_cons (se_var 1) (sa_nil))))) (ss_one (ss_ret (se_bl))) (ss_nil))))
    (ss_cons (ss_asg (sg_tup (is := [2, 3, 4]) rfl (pgs_cons (pg_name (i := 2) scis_bounds.nd rfl (by first | exact Or.inl rfl | exact Or.inr rfl)) (pgs_cons (pg_name (i := 3) scis_bounds.nd rfl (by first | exact Or.inl rfl | exact Or.inr rfl)) (pgs_cons (pg_name (i := 4) scis_bounds.nd rfl (by first | exact Or.inl rfl | exact Or.inr rfl)) (pgs_nil))))) (se_var 0))
    (ss_one (ss_ret (se_and (se_chain op_le op_le pr_le pr_le (se_int) (se_var 2) (se_int)) (se_and (se_chain op_le op_le pr_le pr_le (se_int) (se_var 3) (se_int)) (se_and (se_ge (se_var 4) (se_int)) (se_one (se_ge (se_var 3) (se_mul (se_var 4) (se_add (se_var 2) (se_int))))))))))))) ob_is_bounds
theorem calplaces_of {f : Addr} {fd : FuncData} (B : Bi mg) (F : Fun K "places_of" "places_of" splaces_of f fd) (hm : mg "places_of" = some (.ref f)) (b : Binds K fd ["bounds", "height"] []) (ctwofold : Cal P w K mg base "twofold" 1 ["height"] sp_twofold) :
    Cal P w K mg base "places_of" 2 ["bounds", "height"] sp_places_of :=
  cal_ok F hm scplaces_of b w_places_of len_places_of (fun cdv A outer s H E hr =>
    ss_one (ss_ret (se_mul (se_callC ctwofold hr (by decide) (by rfl) tk_def (sa_cons (se_var 1) (sa_nil))) (se_ix (se_var 0) (se_int) (fun _ _ => rfl))))) ob_places_of
theorem calcap_of {f : Addr} {fd : FuncData} (B : Bi mg) (F : Fun K "cap_of" "cap_of" scap_of f fd) (hm : mg "cap_of" = some (.ref f)) (b : Binds K fd ["bounds", "height"] []) (ctwofold : Cal P w K mg base "twofold" 1 ["height"] sp_twofold) :
    Cal P w K mg base "cap_of" 2 ["bounds", "height"] sp_cap_of :=
  cal_ok F hm sccap_of b w_cap_of len_cap_of (fun cdv A outer s H E hr =>
    ss_one (ss_ret (se_mul (se_callC ctwofold hr (by decide) (by rfl) tk_def (sa_cons (se_var 1) (sa_nil))) (se_sub (se_ix (se_var 0) (se_int) (fun _ _ => rfl)) (se_mul (se_ix (se_var 0) (se_int) (fun _ _ => rfl)) (se_var 1)))))) ob_cap_of
theorem calcalm_of {f : Addr} {fd : FuncData} (B : Bi mg) (F : Fun K "calm_of" "calm_of" scalm_of f fd) (hm : mg "calm_of" = some (.ref f)) (b : Binds K fd ["bounds", "height"] []) (ctwofold : Cal P w K mg base "twofold" 1 ["height"] sp_twofold) :
    Cal P w K mg base "calm_of" 2 ["bounds", "height"] sp_calm_of :=
  cal_ok F hm sccalm_of b w_calm_of len_calm_of (fun cdv A outer s H E hr =>
    ss_one (ss_ret (se_mul (se_callC ctwofold hr (by decide) (by rfl) tk_def (sa_cons (se_var 1) (sa_nil))) (se_sub (se_ix (se_var 0) (se_int) (fun _ _ => rfl)) (se_mul (se_ix (se_var 0) (se_int) (fun _ _ => rfl)) (se_add (se_var 1) (se_int))))))) ob_calm_of
theorem calmended {f : Addr} {fd : FuncData} (B : Bi mg) (F : Fun K "mended" "mended" smended f fd) (hm : mg "mended" = some (.ref f)) (b : Binds K fd ["shelf"] []) (csecond_of : Cal P w K mg base "second_of" 1 ["shelf"] sp_second_of) :
    Cal P w K mg base "mended" 2 ["shelf"] sp_mended :=
  cal_ok F hm scmended b w_mended len_mended (fun cdv A outer s H E hr =>
    ss_cons (ss_set (i := 1) scmended.nd rfl (by first | exact Or.inl rfl | exact Or.inr rfl) (se_callTy call_list_of pb_list (by rfl) B.list (by decide +kernel) (sa_cons (se_var 0) (sa_nil))))
    (ss_cons (ss_set (i := 2) scmended.nd rfl (by first | exact Or.inl rfl | exact Or.inr rfl) (se_callC csecond_of hr (by decide) (by rfl) tk_def (sa_cons (se_var 0) (sa_nil))))
    (ss_cons (ss_if (st_notN (se_var 2)) (ss_one (ss_sub (se_var 1) (se_var 2) (se_tup (sa_nil)))) (ss_nil))
    (ss_one (ss_ret (se_var 1)))))) ob_mended
theorem caltake_writes {f : Addr} {fd : FuncData} (B : Bi mg) (F : Fun K "take_writes" "take_writes" stake_writes f fd) (hm : mg "take_writes" = some (.ref f)) (b : Binds K fd ["shelf", "key"] []) (cplace_of : Cal P w K mg base "place_of" 1 ["shelf", "key"] sp_place_of) (xNoKey : Xc K mg "NoKey") :
    Cal P w K mg base "take_writes" 2 ["shelf", "key"] sp_take_writes :=
  cal_ok F hm sctake_writes b w_take_writes len_take_writes (fun cdv A outer s H E hr =>
    ss_cons (ss_set (i := 2) sctake_writes.nd rfl (by first | exact Or.inl rfl | exact Or.inr rfl) (se_callC cplace_of hr (by decide) (by rfl) tk_def (sa_cons (se_var 0) (sa_cons (se_var 1) (sa_nil)))))
    (ss_cons (ss_if (st_isN (se_var 2)) (ss_one (ss_raise rfl tk_def xNoKey (by rfl))) (ss_nil))
    (ss_one (ss_ret (se_lst (sa_cons (se_tup (sa_cons (se_var 2) (sa_cons (se_tup (sa_nil)) (sa_nil)))) (sa_nil))))))) ob_take_writes
theorem calis_pair {f : Addr} {fd : FuncData} (B : Bi mg) (F : Fun K "is_pair" "is_pair" sis_pair f fd) (hm : mg "is_pair" = some (.ref f)) (b : Binds K fd ["thing"] []) (cis_whole : Cal P w K mg base "is_whole" 1 ["thing"] sp_is_whole) :
    Cal P w K mg base "is_pair" 2 ["thing"] sp_is_pair :=
  cal_ok F hm scis_pair b w_is_pair len_is_pair (fun cdv A outer s H E hr =>
    ss_cons (ss_if ((st_or (st_not (st_val (se_isi (T := "tuple") (by decide) (by rfl) B.isinstance (by rfl) B.tuple (by decide +kernel) (se_var 0)))) (st_one (st_ne hr.units (se_callB call_len pb_len (by rfl) B.len (by decide +kernel) (sa_cons (se_var 0) (sa_nil))) (se_int)))).pt) (ss_one (ss_ret (se_bl))) (ss_nil))
    (ss_one (ss_ret (se_and (se_callC cis_whole hr (by decide) (by rfl) tk_def (sa_cons (se_ix (se_var 0) (se_int) (fun _ _ => rfl)) (sa_nil))) (se_one (se_callC cis_whole hr (by decide) (by rfl) tk_def (sa_cons (se_ix (se_var 0) (se_int) (fun _ _ => rfl)) (sa_nil)))))))) ob_is_pair
theorem calKeeper_disk {f : Addr} {fd : FuncData} (B : Bi mg) (F : Fun K "disk" "Keeper.disk" sKeeper_disk f fd) (cwritten : Cal P w K mg base "written" 1 ["disk", "writes"] sp_written) (cfKeeper : ClsF K mg "Keeper" ["bounds", "slabs", "many_puts", "many_moves", "many_laid", "first_excess", "first_over"]) :
    FnOk P w K mg base (L2.CX P w) 2 f fd ["self"] (spOf K mg sp_Keeper_disk) :=
  fn_ok F scKeeper_disk w_Keeper_disk len_Keeper_disk (fun cdv A outer s H E hr =>
    ss_one (ss_ret (se_callC cwritten hr (by decide) (by rfl) tk_def (sa_cons (se_fld cfKeeper (by simp) (se_var 0)) (sa_cons (se_lst (sa_nil)) (sa_nil)))))) ob_Keeper_disk
theorem cal_law_bounds {f : Addr} {fd : FuncData} (B : Bi mg) (F : Fun K "_law_bounds" "_law_bounds" s_law_bounds f fd) (hm : mg "_law_bounds" = some (.ref f)) (b : Binds K fd ["cell"] []) (c_law_spread : Cal P w K mg base "_law_spread" 1 ["cell"] sp_law_spread) :
    Cal P w K mg base "_law_bounds" 2 ["cell"] sp_law_bounds :=
  cal_ok F hm sc_law_bounds b w_law_bounds len_law_bounds (fun cdv A outer s H E hr =>
    ss_cons (ss_set (i := 1) sc_law_bounds.nd rfl (by first | exact Or.inl rfl | exact Or.inr rfl) (se_callC c_law_spread hr (by decide) (by rfl) tk_def (sa_cons (se_var 0) (sa_nil))))
    (ss_cons (ss_set (i := 2) sc_law_bounds.nd rfl (by first | exact Or.inl rfl | exact Or.inr rfl) (se_ix (se_lst (sa_cons (se_int) (sa_cons (se_int) (sa_cons (se_int) (sa_cons (se_int) (sa_cons (se_int) (sa_cons (se_int) (sa_cons (se_int) (sa_cons (se_int) (sa_nil)))))))))) (se_mod (se_var 1) (se_int)) (fun _ _ => rfl)))
    (ss_cons (ss_set (i := 3) sc_law_bounds.nd rfl (by first | exact Or.inl rfl | exact Or.inr rfl) (se_add (se_int) (se_mod (se_div (se_var 1) (se_int)) (se_div (se_int) (se_add (se_var 2) (se_int))))))
    (ss_cons (ss_set (i := 4) sc_law_bounds.nd rfl (by first | exact Or.inl rfl | exact Or.inr rfl) (se_mul (se_var 3) (se_add (se_var 2) (se_int))))
    (ss_cons (ss_set (i := 5) sc_law_bounds.nd rfl (by first | exact Or.inl rfl | exact Or.inr rfl) (se_ix (se_lst (sa_cons (se_mod (se_div (se_var 1) (se_int)) (se_int)) (sa_cons (se_mod (se_div (se_var 1) (se_int)) (se_int)) (sa_nil)))) (se_mod (se_div (se_var 1) (se_int)) (se_int)) (fun _ _ => rfl)))
    (ss_one (ss_ret (se_tup (sa_cons (se_var 2) (sa_cons (se_add (se_var 4) (se_mod (se_var 5) (se_sub (se_int) (se_var 4)))) (sa_cons (se_var 3) (sa_nil)))))))))))) ob_law_bounds
theorem cal_law_filled {f : Addr} {fd : FuncData} (B : Bi mg) (F : Fun K "_law_filled" "_law_filled" s_law_filled f fd) (hm : mg "_law_filled" = some (.ref f)) (b : Binds K fd ["bounds", "height", "cell", "many"] []) (c_law_two : Cal P w K mg base "_law_two" 1 ["height"] sp_law_two) (c_law_mixed : Cal P w K mg base "_law_mixed" 1 ["cell", "k"] sp_law_mixed) :
    Cal P w K mg base "_law_filled" 2 ["bounds", "height", "cell", "many"] sp_law_filled :=
  cal_ok F hm sc_law_filled b w_law_filled len_law_filled (fun cdv A outer s H E hr =>
    ss_cons (ss_set (i := 4) sc_law_filled.nd rfl (by first | exact Or.inl rfl | exact Or.inr rfl) (se_mul (se_callC c_law_two hr (by decide) (by rfl) tk_def (sa_cons (se_var 1) (sa_nil))) (se_ix (se_var 0) (se_int) (fun _ _ => rfl))))
    (ss_cons (ss_set (i := 5) sc_law_filled.nd rfl (by first | exact Or.inl rfl | exact Or.inr rfl) (se_lrange (by rfl) B.list (by rfl) B.range (se_var 4)))
    (ss_cons (ss_while hp_def (st_gt (se_callB call_len pb_len (by rfl) B.len (by decide +kernel) (sa_cons (se_var 5) (sa_nil))) (se_callB (call_max2 rfl) pb_max (by rfl) B.max (by decide +kernel) (sa_cons (se_int) (sa_cons (se_var 3) (sa_nil))))) (ss_one (ss_expr (se_popAt (se_var 5) (se_mod (se_div (se_callC c_law_mixed hr (by decide) (by rfl) tk_def (sa_cons (se_var 2) (sa_cons (se_callB call_len pb_len (by rfl) B.len (by decide +kernel) (sa_cons (se_var 5) (sa_nil))) (sa_nil)))) (se_int)) (se_callB call_len pb_len (by rfl) B.len (by decide +kernel) (sa_cons (se_var 5) (sa_nil))))))))
    (ss_cons (ss_setLc (i := 6) rfl sc_law_filled.nd rfl rfl (sw_true rfl rfl rfl (by decide +kernel)) (pi_range1 (by rfl) B.range (pa_cons (se_var 4) pa_nil)) (blkOk_by (own := [("place", 7)]) (show blkC n_law_filled (defScope s_law_filled) _ _ = true by decide +kernel)) rfl (fun _ _ _ _ _ => pg_name (i := 7) sc_law_filled.nd rfl (by first | exact Or.inl rfl | exact Or.inr rfl)) (lc_goR1 (of_name _ 7)) (fun _ _ _ _ _ => sts_nil) (fun _ _ _ _ _ => se_tup (sa_nil)))
    (ss_cons (ss_forR1 hp_def rfl (sg_name (i := 8) sc_law_filled.nd rfl (by first | exact Or.inl rfl | exact Or.inr rfl)) (by rfl) B.range (se_callB call_len pb_len (by rfl) B.len (by decide +kernel) (sa_cons (se_var 5) (sa_nil))) (ss_cons (ss_set (i := 9) sc_law_filled.nd rfl (by first | exact Or.inl rfl | exact Or.inr rfl) (se_sub (se_mod (se_callC c_law_mixed hr (by decide) (by rfl) tk_def (sa_cons (se_var 2) (sa_cons (se_var 8) (sa_nil)))) (se_ix (se_lst (sa_cons (se_pow (se_int) (se_int)) (sa_cons (se_int) (sa_nil)))) (se_mod (se_var 8) (se_int)) (fun _ _ => rfl))) (se_int)))
    (ss_one (ss_sub (se_var 6) (se_ix (se_var 5) (se_var 8) (fun _ _ => rfl)) (se_tup (sa_cons (se_sub (se_mul (se_mul (se_int) (se_var 8)) (se_ix (se_lst (sa_cons (se_int) (sa_cons (se_pow (se_int) (se_int)) (sa_nil)))) (se_mod (se_var 2) (se_int)) (fun _ _ => rfl))) (se_mod (se_var 2) (se_pow (se_int) (se_int)))) (sa_cons (se_var 9) (sa_nil))))))))
    (ss_one (ss_ret (se_var 6)))))))) ob_law_filled
theorem cal_law_area {f : Addr} {fd : FuncData} (B : Bi mg) (F : Fun K "_law_area" "_law_area" s_law_area f fd) (hm : mg "_law_area" = some (.ref f)) (b : Binds K fd ["cell", "k", "size", "things"] []) (c_law_mixed : Cal P w K mg base "_law_mixed" 1 ["cell", "k"] sp_law_mixed) :
    Cal P w K mg base "_law_area" 2 ["cell", "k", "size", "things"] sp_law_area :=
  cal_ok F hm sc_law_area b w_law_area len_law_area (fun cdv A outer s H E hr =>
    ss_cons (ss_set (i := 4) sc_law_area.nd rfl (by first | exact Or.inl rfl | exact Or.inr rfl) (se_lst (sa_nil)))
    (ss_cons (ss_forR1 hp_def rfl (sg_name (i := 5) sc_law_area.nd rfl (by first | exact Or.inl rfl | exact Or.inr rfl)) (by rfl) B.range (se_var 2) (ss_cons (ss_set (i := 6) sc_law_area.nd rfl (by first | exact Or.inl rfl | exact Or.inr rfl) (se_callC c_law_mixed hr (by decide) (by rfl) tk_def (sa_cons (se_var 0) (sa_cons (se_add (se_add (se_mul (se_int) (se_var 5)) (se_var 1)) (se_int)) (sa_nil)))))
    (ss_cons (ss_set (i := 7) sc_law_area.nd rfl (by first | exact Or.inl rfl | exact Or.inr rfl) (se_sub (se_mod (se_div (se_var 6) (se_int)) (se_int)) (se_int)))
    (ss_cons (ss_if ((st_and (st_ne hr.units (se_var 3) (se_lst (sa_nil))) (st_one (st_eq hr.units (se_mod (se_div (se_var 6) (se_int)) (se_int)) (se_int)))).pt) (ss_one (ss_set (i := 7) sc_law_area.nd rfl (by first | exact Or.inl rfl | exact Or.inr rfl) (se_sub (se_add (se_ix (se_ix (se_var 3) (se_mod (se_div (se_var 6) (se_int)) (se_callB call_len pb_len (by rfl) B.len (by decide +kernel) (sa_cons (se_var 3) (sa_nil)))) (fun _ _ => rfl)) (se_int) (fun _ _ => rfl)) (se_mod (se_div (se_var 6) (se_int)) (se_int))) (se_int)))) (ss_nil))
    (ss_one (ss_expr (se_append (se_var 4) (se_ix (se_lst (sa_cons (se_tup (sa_nil)) (sa_cons (se_tup (sa_cons (se_var 7) (sa_cons (se_mod (se_div (se_var 6) (se_int)) (se_pow (se_int) (se_int))) (sa_nil)))) (sa_nil)))) (se_callTy call_int1 pb_int (by rfl) B.int (by decide +kernel) (sa_cons (se_gt (se_mod (se_var 6) (se_int)) (se_int)) (sa_nil))) (fun _ _ => rfl)))))))))
    (ss_one (ss_ret (se_var 4))))) ob_law_area
theorem cal_law_cap {f : Addr} {fd : FuncData} (B : Bi mg) (F : Fun K "_law_cap" "_law_cap" s_law_cap f fd) (hm : mg "_law_cap" = some (.ref f)) (b : Binds K fd ["bounds", "height"] []) (c_law_two : Cal P w K mg base "_law_two" 1 ["height"] sp_law_two) :
    Cal P w K mg base "_law_cap" 2 ["bounds", "height"] sp_law_cap :=
  cal_ok F hm sc_law_cap b w_law_cap len_law_cap (fun cdv A outer s H E hr =>
    ss_one (ss_ret (se_mul (se_callC c_law_two hr (by decide) (by rfl) tk_def (sa_cons (se_var 1) (sa_nil))) (se_sub (se_ix (se_var 0) (se_int) (fun _ _ => rfl)) (se_mul (se_var 1) (se_ix (se_var 0) (se_int) (fun _ _ => rfl))))))) ob_law_cap
theorem calstretch_of {f : Addr} {fd : FuncData} (B : Bi mg) (F : Fun K "stretch_of" "stretch_of" sstretch_of f fd) (hm : mg "stretch_of" = some (.ref f)) (b : Binds K fd ["bounds", "height", "place"] []) (cplaces_of : Cal P w K mg base "places_of" 2 ["bounds", "height"] sp_places_of) :
    Cal P w K mg base "stretch_of" 3 ["bounds", "height", "place"] sp_stretch_of :=
  cal_ok F hm scstretch_of b w_stretch_of len_stretch_of (fun cdv A outer s H E hr =>
    ss_cons (ss_set (i := 3) scstretch_of.nd rfl (by first | exact Or.inl rfl | exact Or.inr rfl) (se_callC cplaces_of hr (by decide) (by rfl) tk_def (sa_cons (se_var 0) (sa_cons (se_var 1) (sa_nil)))))
    (ss_cons (ss_set (i := 4) scstretch_of.nd rfl (by first | exact Or.inl rfl | exact Or.inr rfl) (se_mul (se_div (se_var 2) (se_var 3)) (se_var 3)))
    (ss_one (ss_ret (se_tup (sa_cons (se_var 4) (sa_cons (se_add (se_var 4) (se_var 3)) (sa_nil)))))))) ob_stretch_of
theorem calis_sound {f : Addr} {fd : FuncData} (B : Bi mg) (F : Fun K "is_sound" "is_sound" sis_sound f fd) (hm : mg "is_sound" = some (.ref f)) (b : Binds K fd ["shelf"] []) (cmended : Cal P w K mg base "mended" 2 ["shelf"] sp_mended) (cis_straight : Cal P w K mg base "is_straight" 1 ["shelf"] sp_is_straight) :
    Cal P w K mg base "is_sound" 3 ["shelf"] sp_is_sound :=
  cal_ok F hm scis_sound b w_is_sound len_is_sound (fun cdv A outer s H E hr =>
    ss_one (ss_ret (se_callC cis_straight hr (by decide) (by rfl) tk_def (sa_cons (se_callC cmended hr (by decide) (by rfl) tk_def (sa_cons (se_var 0) (sa_nil))) (sa_nil))))) ob_is_sound
theorem calrows_of {f : Addr} {fd : FuncData} (B : Bi mg) (F : Fun K "rows_of" "rows_of" srows_of f fd) (hm : mg "rows_of" = some (.ref f)) (b : Binds K fd ["shelf"] []) (cmended : Cal P w K mg base "mended" 2 ["shelf"] sp_mended) :
    Cal P w K mg base "rows_of" 3 ["shelf"] sp_rows_of :=
  cal_ok F hm scrows_of b w_rows_of len_rows_of (fun cdv A outer s H E hr =>
    ss_one (ss_ret (se_lc rfl scrows_of.nd (se_callC cmended hr (by decide) (by rfl) tk_def (sa_cons (se_var 0) (sa_nil))) (blkOk_by (own := [("thing", 1)]) (show blkC n_rows_of (defScope srows_of) _ _ = true by decide +kernel)) rfl (fun _ _ _ _ _ => pg_name (i := 1) scrows_of.nd rfl (by first | exact Or.inl rfl | exact Or.inr rfl)) (of_name _ 1) (fun _ _ _ _ _ => sts_one (st_ne hr.units (se_var 1) (se_tup (sa_nil)))) (fun _ _ _ _ _ => se_var 1)))) ob_rows_of
theorem calexcess_at {f : Addr} {fd : FuncData} (B : Bi mg) (F : Fun K "excess_at" "excess_at" sexcess_at f fd) (hm : mg "excess_at" = some (.ref f)) (b : Binds K fd ["bounds", "low", "shelf"] []) (cplaces_of : Cal P w K mg base "places_of" 2 ["bounds", "height"] sp_places_of) (ccalm_of : Cal P w K mg base "calm_of" 2 ["bounds", "height"] sp_calm_of) (cheld : Cal P w K mg base "held" 1 ["shelf", "first", "behind"] sp_held) :
    Cal P w K mg base "excess_at" 3 ["bounds", "low", "shelf"] sp_excess_at :=
  cal_ok F hm scexcess_at b w_excess_at len_excess_at (fun cdv A outer s H E hr =>
    ss_cons (ss_set (i := 3) scexcess_at.nd rfl (by first | exact Or.inl rfl | exact Or.inr rfl) (se_callC cplaces_of hr (by decide) (by rfl) tk_def (sa_cons (se_var 0) (sa_cons (se_var 1) (sa_nil)))))
    (ss_cons (ss_set (i := 4) scexcess_at.nd rfl (by first | exact Or.inl rfl | exact Or.inr rfl) (se_callC ccalm_of hr (by decide) (by rfl) tk_def (sa_cons (se_var 0) (sa_cons (se_var 1) (sa_nil)))))
    (ss_one (ss_ret (se_callB (cr_sum rfl) pb_sum (by rfl) B.sum (by decide +kernel) (sa_cons (se_lcR3 rfl scexcess_at.nd (by rfl) B.range (se_int) (se_callB call_len pb_len (by rfl) B.len (by decide +kernel) (sa_cons (se_var 2) (sa_nil))) (se_var 3) (blkOk_by (own := [("first", 5)]) (show blkC n_excess_at (defScope sexcess_at) _ _ = true by decide +kernel)) rfl (fun _ _ _ _ _ => pg_name (i := 5) scexcess_at.nd rfl (by first | exact Or.inl rfl | exact Or.inr rfl)) (of_name _ 5) (fun _ _ _ _ _ => sts_nil) (fun _ _ _ _ _ => se_callB (call_max2 rfl) pb_max (by rfl) B.max (by decide +kernel) (sa_cons (se_int) (sa_cons (se_sub (se_callC cheld hr (by decide) (by rfl) takes0 (sa_cons (se_var 2) (sa_cons (se_var 5) (sa_cons (se_add (se_var 5) (se_var 3)) (sa_nil))))) (se_var 4)) (sa_nil))))) (sa_nil))))))) ob_excess_at
theorem calover_of {f : Addr} {fd : FuncData} (B : Bi mg) (F : Fun K "over_of" "over_of" sover_of f fd) (hm : mg "over_of" = some (.ref f)) (b : Binds K fd ["bounds", "height", "shelf"] []) (ccap_of : Cal P w K mg base "cap_of" 2 ["bounds", "height"] sp_cap_of) (cheld : Cal P w K mg base "held" 1 ["shelf", "first", "behind"] sp_held) :
    Cal P w K mg base "over_of" 3 ["bounds", "height", "shelf"] sp_over_of :=
  cal_ok F hm scover_of b w_over_of len_over_of (fun cdv A outer s H E hr =>
    ss_cons (ss_set (i := 3) scover_of.nd rfl (by first | exact Or.inl rfl | exact Or.inr rfl) (se_int))
    (ss_cons (ss_if (st_gt (se_var 1) (se_int)) (ss_one (ss_set (i := 3) scover_of.nd rfl (by first | exact Or.inl rfl | exact Or.inr rfl) (se_callC ccap_of hr (by decide) (by rfl) tk_def (sa_cons (se_var 0) (sa_cons (se_sub (se_var 1) (se_int)) (sa_nil)))))) (ss_nil))
    (ss_one (ss_ret (se_callB (call_max2 rfl) pb_max (by rfl) B.max (by decide +kernel) (sa_cons (se_int) (sa_cons (se_sub (se_callC cheld hr (by decide) (by rfl) tk_def (sa_cons (se_var 2) (sa_cons (se_int) (sa_cons (se_callB call_len pb_len (by rfl) B.len (by decide +kernel) (sa_cons (se_var 2) (sa_nil))) (sa_nil))))) (se_var 3)) (sa_nil)))))))) ob_over_of
theorem calis_area {f : Addr} {fd : FuncData} (B : Bi mg) (F : Fun K "is_area" "is_area" sis_area f fd) (hm : mg "is_area" = some (.ref f)) (b : Binds K fd ["thing", "size"] []) (cis_pair : Cal P w K mg base "is_pair" 2 ["thing"] sp_is_pair) :
    Cal P w K mg base "is_area" 3 ["thing", "size"] sp_is_area :=
  cal_ok F hm scis_area b w_is_area len_is_area (fun cdv A outer s H E hr =>
    ss_cons (ss_if ((st_or (st_not (st_val (se_isi (T := "list") (by decide) (by rfl) B.isinstance (by rfl) B.list (by decide +kernel) (se_var 0)))) (st_one (st_ne hr.units (se_callB call_len pb_len (by rfl) B.len (by decide +kernel) (sa_cons (se_var 0) (sa_nil))) (se_var 1)))).pt) (ss_one (ss_ret (se_bl))) (ss_nil))
    (ss_cons (ss_for hp_def rfl (sg_name (i := 2) scis_area.nd rfl (by first | exact Or.inl rfl | exact Or.inr rfl)) (se_var 0) (ss_one (ss_if ((st_and (st_not (st_val (se_callC cis_pair hr (by decide) (by rfl) tk_def (sa_cons (se_var 2) (sa_nil))))) (st_one ((st_or (st_not (st_val (se_isi (T := "tuple") (by decide) (by rfl) B.isinstance (by rfl) B.tuple (by decide +kernel) (se_var 2)))) (st_one (st_ne hr.units (se_var 2) (se_tup (sa_nil))))).pt))).pt) (ss_one (ss_ret (se_bl))) (ss_nil))))
    (ss_one (ss_ret (se_bl))))) ob_is_area
theorem calis_sign {f : Addr} {fd : FuncData} (B : Bi mg) (F : Fun K "is_sign" "is_sign" sis_sign f fd) (hm : mg "is_sign" = some (.ref f)) (b : Binds K fd ["bounds", "thing"] []) (cis_pair : Cal P w K mg base "is_pair" 2 ["thing"] sp_is_pair) :
    Cal P w K mg base "is_sign" 3 ["bounds", "thing"] sp_is_sign :=
  cal_ok F hm scis_sign b w_is_sign len_is_sign (fun cdv A outer s H E hr =>
    ss_cons (ss_if ((st_or (st_not (st_val (se_isi (T := "list") (by decide) (by rfl) B.isinstance (by rfl) B.list (by decide +kernel) (se_var 1)))) (st_or (st_ne hr.units (se_callB call_len pb_len (by rfl) B.len (by decide +kernel) (sa_cons (se_var 1) (sa_nil))) (se_int)) (st_one (st_not (st_val (se_callC cis_pair hr (by decide) (by rfl) tk_def (sa_cons (se_ix (se_var 1) (se_int) (fun _ _ => rfl)) (sa_nil)))))))).pt) (ss_one (ss_ret (se_bl))) (ss_nil))
    (ss_one (ss_ret (se_and (se_chain op_le op_le pr_le pr_le (se_int) (se_ix (se_ix (se_var 1) (se_int) (fun _ _ => rfl)) (se_int) (fun _ _ => rfl)) (se_int)) (se_one (se_chain op_le op_le pr_le pr_le (se_int) (se_ix (se_ix (se_var 1) (se_int) (fun _ _ => rfl)) (se_int) (fun _ _ => rfl)) (se_ix (se_var 0) (se_int) (fun _ _ => rfl)))))))) ob_is_sign
theorem calshelf_on {f : Addr} {fd : FuncData} (B : Bi mg) (F : Fun K "shelf_on" "shelf_on" sshelf_on f fd) (hm : mg "shelf_on" = some (.ref f)) (b : Binds K fd ["bounds", "disk"] []) (cplaces_of : Cal P w K mg base "places_of" 2 ["bounds", "height"] sp_places_of) :
    Cal P w K mg base "shelf_on" 3 ["bounds", "disk"] sp_shelf_on :=
  cal_ok F hm scshelf_on b w_shelf_on len_shelf_on (fun cdv A outer s H E hr =>
    ss_cons (ss_asg (sg_tup (is := [2, 3]) rfl (pgs_cons (pg_name (i := 2) scshelf_on.nd rfl (by first | exact Or.inl rfl | exact Or.inr rfl)) (pgs_cons (pg_name (i := 3) scshelf_on.nd rfl (by first | exact Or.inl rfl | exact Or.inr rfl)) (pgs_nil)))) (se_ix (se_ix (se_var 1) (se_int) (fun _ _ => rfl)) (se_int) (fun _ _ => rfl)))
    (ss_one (ss_ret (se_sl (se_ix (se_var 1) (se_var 2) (fun _ _ => rfl)) .none (.some (se_callC cplaces_of hr (by decide) (by rfl) tk_def (sa_cons (se_var 0) (sa_cons (se_var 3) (sa_nil))))))))) ob_shelf_on
theorem cal_law_disk {f : Addr} {fd : FuncData} (B : Bi mg) (F : Fun K "_law_disk" "_law_disk" s_law_disk f fd) (hm : mg "_law_disk" = some (.ref f)) (b : Binds K fd ["bounds", "height", "which", "shelf", "cell"] []) (c_law_two : Cal P w K mg base "_law_two" 1 ["height"] sp_law_two) (c_law_area : Cal P w K mg base "_law_area" 2 ["cell", "k", "size", "things"] sp_law_area) :
    Cal P w K mg base "_law_disk" 3 ["bounds", "height", "which", "shelf", "cell"] sp_law_disk :=
  cal_ok F hm sc_law_disk b w_law_disk len_law_disk (fun cdv A outer s H E hr =>
    ss_cons (ss_set (i := 5) sc_law_disk.nd rfl (by first | exact Or.inl rfl | exact Or.inr rfl) (se_lc rfl sc_law_disk.nd (se_var 3) (blkOk_by (own := [("thing", 6)]) (show blkC n_law_disk (defScope s_law_disk) _ _ = true by decide +kernel)) rfl (fun _ _ _ _ _ => pg_name (i := 6) sc_law_disk.nd rfl (by first | exact Or.inl rfl | exact Or.inr rfl)) (of_name _ 6) (fun _ _ _ _ _ => sts_one (st_ne hr.units (se_var 6) (se_tup (sa_nil)))) (fun _ _ _ _ _ => se_var 6)))
    (ss_cons (ss_setLc (i := 7) rfl sc_law_disk.nd rfl rfl (sw_true rfl rfl rfl (by decide +kernel)) (pi_range1 (by rfl) B.range (pa_cons (se_int) pa_nil)) (blkOk_by (own := [("k", 8)]) (show blkC n_law_disk (defScope s_law_disk) _ _ = true by decide +kernel)) rfl (fun _ _ _ _ _ => pg_name (i := 8) sc_law_disk.nd rfl (by first | exact Or.inl rfl | exact Or.inr rfl)) (lc_goR1 (of_name _ 8)) (fun _ _ _ _ _ => sts_nil) (fun _ _ _ _ _ => se_callC c_law_area hr (by decide) (by rfl) takes0 (sa_cons (se_var 4) (sa_cons (se_var 8) (sa_cons (se_mul (se_callC c_law_two hr (by decide) (by rfl) takes0 (sa_cons (se_ix (se_var 0) (se_int) (fun _ _ => rfl)) (sa_nil))) (se_ix (se_var 0) (se_int) (fun _ _ => rfl))) (sa_cons (se_var 5) (sa_nil)))))))
    (ss_cons (ss_sub (se_var 7) (se_var 2) (se_add (se_var 3) (se_sl (se_ix (se_var 7) (se_var 2) (fun _ _ => rfl)) (.some (se_callB call_len pb_len (by rfl) B.len (by decide +kernel) (sa_cons (se_var 3) (sa_nil)))) .none)))
    (ss_one (ss_ret (se_lst (sa_cons (se_ix (se_var 7) (se_int) (fun _ _ => rfl)) (sa_cons (se_ix (se_var 7) (se_int) (fun _ _ => rfl)) (sa_cons (se_lst (sa_cons (se_tup (sa_cons (se_var 2) (sa_cons (se_var 1) (sa_nil)))) (sa_nil))) (sa_nil)))))))))) ob_law_disk
theorem calexcess_of {f : Addr} {fd : FuncData} (B : Bi mg) (F : Fun K "excess_of" "excess_of" sexcess_of f fd) (hm : mg "excess_of" = some (.ref f)) (b : Binds K fd ["bounds", "height", "shelf"] []) (cexcess_at : Cal P w K mg base "excess_at" 3 ["bounds", "low", "shelf"] sp_excess_at) :
    Cal P w K mg base "excess_of" 4 ["bounds", "height", "shelf"] sp_excess_of :=
  cal_ok F hm scexcess_of b w_excess_of len_excess_of (fun cdv A outer s H E hr =>
    ss_one (ss_ret (se_callB (cr_sum rfl) pb_sum (by rfl) B.sum (by decide +kernel) (sa_cons (se_lcR1 rfl scexcess_of.nd (by rfl) B.range (se_var 1) (blkOk_by (own := [("low", 3)]) (show blkC n_excess_of (defScope sexcess_of) _ _ = true by decide +kernel)) rfl (fun _ _ _ _ _ => pg_name (i := 3) scexcess_of.nd rfl (by first | exact Or.inl rfl | exact Or.inr rfl)) (of_name _ 3) (fun _ _ _ _ _ => sts_nil) (fun _ _ _ _ _ => se_callC cexcess_at hr (by decide) (by rfl) takes0 (sa_cons (se_var 0) (sa_cons (se_var 3) (sa_cons (se_var 2) (sa_nil)))))) (sa_nil))))) ob_excess_of
theorem calheight_for {f : Addr} {fd : FuncData} (B : Bi mg) (F : Fun K "height_for" "height_for" sheight_for f fd) (hm : mg "height_for" = some (.ref f)) (b : Binds K fd ["bounds", "height", "shelf", "key"] []) (cseat_of : Cal P w K mg base "seat_of" 1 ["shelf", "key"] sp_seat_of) (cstretch_of : Cal P w K mg base "stretch_of" 3 ["bounds", "height", "place"] sp_stretch_of) (cheld : Cal P w K mg base "held" 1 ["shelf", "first", "behind"] sp_held) (ccap_of : Cal P w K mg base "cap_of" 2 ["bounds", "height"] sp_cap_of) :
    Cal P w K mg base "height_for" 4 ["bounds", "height", "shelf", "key"] sp_height_for :=
  cal_ok F hm scheight_for b w_height_for len_height_for (fun cdv A outer s H E hr =>
    ss_cons (ss_set (i := 4) scheight_for.nd rfl (by first | exact Or.inl rfl | exact Or.inr rfl) (se_callC cseat_of hr (by decide) (by rfl) tk_def (sa_cons (se_var 2) (sa_cons (se_var 3) (sa_nil)))))
    (ss_cons (ss_forR1 hp_def rfl (sg_name (i := 5) scheight_for.nd rfl (by first | exact Or.inl rfl | exact Or.inr rfl)) (by rfl) B.range (se_var 1) (ss_cons (ss_asg (sg_tup (is := [6, 7]) rfl (pgs_cons (pg_name (i := 6) scheight_for.nd rfl (by first | exact Or.inl rfl | exact Or.inr rfl)) (pgs_cons (pg_name (i := 7) scheight_for.nd rfl (by first | exact Or.inl rfl | exact Or.inr rfl)) (pgs_nil)))) (se_callC cstretch_of hr (by decide) (by rfl) tk_def (sa_cons (se_var 0) (sa_cons (se_var 5) (sa_cons (se_var 4) (sa_nil))))))
    (ss_one (ss_if (st_lt (se_callC cheld hr (by decide) (by rfl) tk_def (sa_cons (se_var 2) (sa_cons (se_var 6) (sa_cons (se_var 7) (sa_nil))))) (se_callC ccap_of hr (by decide) (by rfl) tk_def (sa_cons (se_var 0) (sa_cons (se_var 5) (sa_nil))))) (ss_one (ss_ret (se_var 5))) (ss_nil)))))
    (ss_one (ss_ret (se_var 1))))) ob_height_for
theorem calevened {f : Addr} {fd : FuncData} (B : Bi mg) (F : Fun K "evened" "evened" sevened f fd) (hm : mg "evened" = some (.ref f)) (b : Binds K fd ["bounds", "low", "shelf", "key", "amount"] []) (cseat_of : Cal P w K mg base "seat_of" 1 ["shelf", "key"] sp_seat_of) (cstretch_of : Cal P w K mg base "stretch_of" 3 ["bounds", "height", "place"] sp_stretch_of) (ctargets : Cal P w K mg base "targets" 1 ["many", "size"] sp_targets) (cmoves_of : Cal P w K mg base "moves_of" 1 ["places", "aims"] sp_moves_of) (cwrites_of : Cal P w K mg base "writes_of" 1 ["shelf", "moves"] sp_writes_of) :
    Cal P w K mg base "evened" 4 ["bounds", "low", "shelf", "key", "amount"] sp_evened :=
  cal_ok F hm scevened b w_evened len_evened (fun cdv A outer s H E hr =>
    ss_cons (ss_asg (sg_tup (is := [5, 6]) rfl (pgs_cons (pg_name (i := 5) scevened.nd rfl (by first | exact Or.inl rfl | exact Or.inr rfl)) (pgs_cons (pg_name (i := 6) scevened.nd rfl (by first | exact Or.inl rfl | exact Or.inr rfl)) (pgs_nil)))) (se_callC cstretch_of hr (by decide) (by rfl) tk_def (sa_cons (se_var 0) (sa_cons (se_var 1) (sa_cons (se_callC cseat_of hr (by decide) (by rfl) tk_def (sa_cons (se_var 2) (sa_cons (se_var 3) (sa_nil)))) (sa_nil))))))
    (ss_cons (ss_setLc (i := 7) rfl scevened.nd rfl rfl (sw_true rfl rfl rfl (by decide +kernel)) (pi_range2 (by rfl) B.range (pa_cons (se_var 5) (pa_cons (se_var 6) pa_nil))) (blkOk_by (own := [("place", 8)]) (show blkC n_evened (defScope sevened) _ _ = true by decide +kernel)) rfl (fun _ _ _ _ _ => pg_name (i := 8) scevened.nd rfl (by first | exact Or.inl rfl | exact Or.inr rfl)) (lc_goR2 (of_name _ 8)) (fun _ _ _ _ _ => sts_one (st_ne hr.units (se_ix (se_var 2) (se_var 8) (fun _ _ => rfl)) (se_tup (sa_nil)))) (fun _ _ _ _ _ => se_var 8))
    (ss_cons (ss_set (i := 9) scevened.nd rfl (by first | exact Or.inl rfl | exact Or.inr rfl) (se_callB call_len pb_len (by rfl) B.len (by decide +kernel) (sa_cons (se_lc rfl scevened.nd (se_var 7) (blkOk_by (own := [("place", 8)]) (show blkC n_evened (defScope sevened) _ _ = true by decide +kernel)) rfl (fun _ _ _ _ _ => pg_name (i := 8) scevened.nd rfl (by first | exact Or.inl rfl | exact Or.inr rfl)) (of_name _ 8) (fun _ _ _ _ _ => sts_one (st_lt (se_ix (se_ix (se_var 2) (se_var 8) (fun _ _ => rfl)) (se_int) (fun _ _ => rfl)) (se_var 3))) (fun _ _ _ _ _ => se_var 8)) (sa_nil))))
    (ss_cons (ss_setLc (i := 10) rfl scevened.nd rfl rfl (sw_true rfl rfl rfl (by decide +kernel)) (pi_list (se_callC ctargets hr (by decide) (by rfl) tk_def (sa_cons (se_add (se_callB call_len pb_len (by rfl) B.len (by decide +kernel) (sa_cons (se_var 7) (sa_nil))) (se_int)) (sa_cons (se_sub (se_var 6) (se_var 5)) (sa_nil))))) (blkOk_by (own := [("aim", 11)]) (show blkC n_evened (defScope sevened) _ _ = true by decide +kernel)) rfl (fun _ _ _ _ _ => pg_name (i := 11) scevened.nd rfl (by first | exact Or.inl rfl | exact Or.inr rfl)) (lc_go (of_name _ 11)) (fun _ _ _ _ _ => sts_nil) (fun _ _ _ _ _ => se_add (se_var 5) (se_var 11)))
    (ss_cons (ss_set (i := 12) scevened.nd rfl (by first | exact Or.inl rfl | exact Or.inr rfl) (se_callC cmoves_of hr (by decide) (by rfl) tk_def (sa_cons (se_var 7) (sa_cons (se_add (se_sl (se_var 10) .none (.some (se_var 9))) (se_sl (se_var 10) (.some (se_add (se_var 9) (se_int))) .none)) (sa_nil)))))
    (ss_one (ss_ret (se_add (se_callC cwrites_of hr (by decide) (by rfl) tk_def (sa_cons (se_var 2) (sa_cons (se_var 12) (sa_nil)))) (se_lst (sa_cons (se_tup (sa_cons (se_ix (se_var 10) (se_var 9) (fun _ _ => rfl)) (sa_cons (se_tup (sa_cons (se_var 3) (sa_cons (se_var 4) (sa_nil)))) (sa_nil)))) (sa_nil))))))))))) ob_evened
theorem calis_disk {f : Addr} {fd : FuncData} (B : Bi mg) (F : Fun K "is_disk" "is_disk" sis_disk f fd) (hm : mg "is_disk" = some (.ref f)) (b : Binds K fd ["bounds", "thing"] []) (cis_sign : Cal P w K mg base "is_sign" 3 ["bounds", "thing"] sp_is_sign) (cplaces_of : Cal P w K mg base "places_of" 2 ["bounds", "height"] sp_places_of) (cis_area : Cal P w K mg base "is_area" 3 ["thing", "size"] sp_is_area) (cshelf_on : Cal P w K mg base "shelf_on" 3 ["bounds", "disk"] sp_shelf_on) (cis_sound : Cal P w K mg base "is_sound" 3 ["shelf"] sp_is_sound) (crows_of : Cal P w K mg base "rows_of" 3 ["shelf"] sp_rows_of) (ccap_of : Cal P w K mg base "cap_of" 2 ["bounds", "height"] sp_cap_of) :
    Cal P w K mg base "is_disk" 4 ["bounds", "thing"] sp_is_disk :=
  cal_ok F hm scis_disk b w_is_disk len_is_disk (fun cdv A outer s H E hr =>
    ss_cons (ss_if ((st_or (st_not (st_val (se_isi (T := "list") (by decide) (by rfl) B.isinstance (by rfl) B.list (by decide +kernel) (se_var 1)))) (st_or (st_ne hr.units (se_callB call_len pb_len (by rfl) B.len (by decide +kernel) (sa_cons (se_var 1) (sa_nil))) (se_int)) (st_one (st_not (st_val (se_callC cis_sign hr (by decide) (by rfl) tk_def (sa_cons (se_var 0) (sa_cons (se_ix (se_var 1) (se_int) (fun _ _ => rfl)) (sa_nil))))))))).pt) (ss_one (ss_ret (se_bl))) (ss_nil))
    (ss_cons (ss_set (i := 2) scis_disk.nd rfl (by first | exact Or.inl rfl | exact Or.inr rfl) (se_callC cplaces_of hr (by decide) (by rfl) tk_def (sa_cons (se_var 0) (sa_cons (se_ix (se_var 0) (se_int) (fun _ _ => rfl)) (sa_nil)))))
    (ss_cons (ss_if ((st_or (st_not (st_val (se_callC cis_area hr (by decide) (by rfl) tk_def (sa_cons (se_ix (se_var 1) (se_int) (fun _ _ => rfl)) (sa_cons (se_var 2) (sa_nil)))))) (st_one (st_not (st_val (se_callC cis_area hr (by decide) (by rfl) tk_def (sa_cons (se_ix (se_var 1) (se_int) (fun _ _ => rfl)) (sa_cons (se_var 2) (sa_nil)))))))).pt) (ss_one (ss_ret (se_bl))) (ss_nil))
    (ss_cons (ss_set (i := 3) scis_disk.nd rfl (by first | exact Or.inl rfl | exact Or.inr rfl) (se_callC cshelf_on hr (by decide) (by rfl) tk_def (sa_cons (se_var 0) (sa_cons (se_var 1) (sa_nil)))))
    (ss_one (ss_ret (se_and (se_callC cis_sound hr (by decide) (by rfl) tk_def (sa_cons (se_var 3) (sa_nil))) (se_one (se_le (se_callB call_len pb_len (by rfl) B.len (by decide +kernel) (sa_cons (se_callC crows_of hr (by decide) (by rfl) tk_def (sa_cons (se_var 3) (sa_nil))) (sa_nil))) (se_callC ccap_of hr (by decide) (by rfl) tk_def (sa_cons (se_var 0) (sa_cons (se_ix (se_ix (se_ix (se_var 1) (se_int) (fun _ _ => rfl)) (se_int) (fun _ _ => rfl)) (se_int) (fun _ _ => rfl)) (sa_nil))))))))))))) ob_is_disk
theorem calgrow_writes {f : Addr} {fd : FuncData} (B : Bi mg) (F : Fun K "grow_writes" "grow_writes" sgrow_writes f fd) (hm : mg "grow_writes" = some (.ref f)) (b : Binds K fd ["bounds", "disk"] []) (cshelf_on : Cal P w K mg base "shelf_on" 3 ["bounds", "disk"] sp_shelf_on) (crows_of : Cal P w K mg base "rows_of" 3 ["shelf"] sp_rows_of) (cplaces_of : Cal P w K mg base "places_of" 2 ["bounds", "height"] sp_places_of) (ctargets : Cal P w K mg base "targets" 1 ["many", "size"] sp_targets) :
    Cal P w K mg base "grow_writes" 4 ["bounds", "disk"] sp_grow_writes :=
  cal_ok F hm scgrow_writes b w_grow_writes len_grow_writes (fun cdv A outer s H E hr =>
    ss_cons (ss_asg (sg_tup (is := [2, 3]) rfl (pgs_cons (pg_name (i := 2) scgrow_writes.nd rfl (by first | exact Or.inl rfl | exact Or.inr rfl)) (pgs_cons (pg_name (i := 3) scgrow_writes.nd rfl (by first | exact Or.inl rfl | exact Or.inr rfl)) (pgs_nil)))) (se_ix (se_ix (se_var 1) (se_int) (fun _ _ => rfl)) (se_int) (fun _ _ => rfl)))
    (ss_cons (ss_set (i := 4) scgrow_writes.nd rfl (by first | exact Or.inl rfl | exact Or.inr rfl) (se_sub (se_int) (se_var 2)))
    (ss_cons (ss_setLc (i := 5) rfl scgrow_writes.nd rfl rfl (sw_true rfl rfl rfl (by decide +kernel)) (pi_range1 (by rfl) B.range (pa_cons (se_callB call_len pb_len (by rfl) B.len (by decide +kernel) (sa_cons (se_ix (se_var 1) (se_var 4) (fun _ _ => rfl)) (sa_nil))) pa_nil)) (blkOk_by (own := [("place", 6)]) (show blkC n_grow_writes (defScope sgrow_writes) _ _ = true by decide +kernel)) rfl (fun _ _ _ _ _ => pg_name (i := 6) scgrow_writes.nd rfl (by first | exact Or.inl rfl | exact Or.inr rfl)) (lc_goR1 (of_name _ 6)) (fun _ _ _ _ _ => sts_one (st_ne hr.units (se_ix (se_ix (se_var 1) (se_var 4) (fun _ _ => rfl)) (se_var 6) (fun _ _ => rfl)) (se_tup (sa_nil)))) (fun _ _ _ _ _ => se_tup (sa_cons (se_var 4) (sa_cons (se_var 6) (sa_cons (se_tup (sa_nil)) (sa_nil))))))
    (ss_cons (ss_set (i := 7) scgrow_writes.nd rfl (by first | exact Or.inl rfl | exact Or.inr rfl) (se_callC crows_of hr (by decide) (by rfl) tk_def (sa_cons (se_callC cshelf_on hr (by decide) (by rfl) tk_def (sa_cons (se_var 0) (sa_cons (se_var 1) (sa_nil)))) (sa_nil))))
    (ss_cons (ss_set (i := 8) scgrow_writes.nd rfl (by first | exact Or.inl rfl | exact Or.inr rfl) (se_callC ctargets hr (by decide) (by rfl) tk_def (sa_cons (se_callB call_len pb_len (by rfl) B.len (by decide +kernel) (sa_cons (se_var 7) (sa_nil))) (sa_cons (se_callC cplaces_of hr (by decide) (by rfl) tk_def (sa_cons (se_var 0) (sa_cons (se_add (se_var 3) (se_int)) (sa_nil)))) (sa_nil)))))
    (ss_cons (ss_forZ hp_def rfl (sg_tup (is := [9, 10]) rfl (pgs_cons (pg_name (i := 9) scgrow_writes.nd rfl (by first | exact Or.inl rfl | exact Or.inr rfl)) (pgs_cons (pg_name (i := 10) scgrow_writes.nd rfl (by first | exact Or.inl rfl | exact Or.inr rfl)) (pgs_nil)))) (by rfl) B.zip (se_var 8) (se_var 7) (ss_one (ss_expr (se_append (se_var 5) (se_tup (sa_cons (se_var 4) (sa_cons (se_var 9) (sa_cons (se_var 10) (sa_nil)))))))))
    (ss_cons (ss_expr (se_append (se_var 5) (se_tup (sa_cons (se_int) (sa_cons (se_int) (sa_cons (se_tup (sa_cons (se_var 4) (sa_cons (se_add (se_var 3) (se_int)) (sa_nil)))) (sa_nil)))))))
    (ss_one (ss_ret (se_var 5)))))))))) ob_grow_writes
theorem caldisk_take {f : Addr} {fd : FuncData} (B : Bi mg) (F : Fun K "disk_take" "disk_take" sdisk_take f fd) (hm : mg "disk_take" = some (.ref f)) (b : Binds K fd ["bounds", "disk", "key"] []) (cshelf_on : Cal P w K mg base "shelf_on" 3 ["bounds", "disk"] sp_shelf_on) (ctake_writes : Cal P w K mg base "take_writes" 2 ["shelf", "key"] sp_take_writes) :
    Cal P w K mg base "disk_take" 4 ["bounds", "disk", "key"] sp_disk_take :=
  cal_ok F hm scdisk_take b w_disk_take len_disk_take (fun cdv A outer s H E hr =>
    ss_cons (ss_set (i := 3) scdisk_take.nd rfl (by first | exact Or.inl rfl | exact Or.inr rfl) (se_ix (se_ix (se_ix (se_var 1) (se_int) (fun _ _ => rfl)) (se_int) (fun _ _ => rfl)) (se_int) (fun _ _ => rfl)))
    (ss_one (ss_ret (se_lc rfl scdisk_take.nd (se_callC ctake_writes hr (by decide) (by rfl) tk_def (sa_cons (se_callC cshelf_on hr (by decide) (by rfl) tk_def (sa_cons (se_var 0) (sa_cons (se_var 1) (sa_nil)))) (sa_cons (se_var 2) (sa_nil)))) (blkOk_by (own := [("place", 4), ("thing", 5)]) (show blkC n_disk_take (defScope sdisk_take) _ _ = true by decide +kernel)) rfl (fun _ _ _ _ _ => pg_tup rfl (pgs_cons (pg_name (i := 4) scdisk_take.nd rfl (by first | exact Or.inl rfl | exact Or.inr rfl)) (pgs_cons (pg_name (i := 5) scdisk_take.nd rfl (by first | exact Or.inl rfl | exact Or.inr rfl)) (pgs_nil)))) (of_names2 _ 4 5) (fun _ _ _ _ _ => sts_nil) (fun _ _ _ _ _ => se_tup (sa_cons (se_var 3) (sa_cons (se_var 4) (sa_cons (se_var 5) (sa_nil))))))))) ob_disk_take
theorem calKeeper_shelf {f : Addr} {fd : FuncData} (B : Bi mg) (F : Fun K "shelf" "Keeper.shelf" sKeeper_shelf f fd) (cshelf_on : Cal P w K mg base "shelf_on" 3 ["bounds", "disk"] sp_shelf_on) (cfKeeper : ClsF K mg "Keeper" ["bounds", "slabs", "many_puts", "many_moves", "many_laid", "first_excess", "first_over"]) :
    FnOk P w K mg base (L2.CX P w) 4 f fd ["self"] (spOf K mg sp_Keeper_shelf) :=
  fn_ok F scKeeper_shelf w_Keeper_shelf len_Keeper_shelf (fun cdv A outer s H E hr =>
    ss_one (ss_ret (se_callC cshelf_on hr (by decide) (by rfl) tk_def (sa_cons (se_fld cfKeeper (by simp) (se_var 0)) (sa_cons (se_fld cfKeeper (by simp) (se_var 0)) (sa_nil)))))) ob_Keeper_shelf
theorem calput_writes {f : Addr} {fd : FuncData} (B : Bi mg) (F : Fun K "put_writes" "put_writes" sput_writes f fd) (hm : mg "put_writes" = some (.ref f)) (b : Binds K fd ["bounds", "height", "shelf", "key", "amount"] []) (cplace_of : Cal P w K mg base "place_of" 1 ["shelf", "key"] sp_place_of) (cheld : Cal P w K mg base "held" 1 ["shelf", "first", "behind"] sp_held) (ccap_of : Cal P w K mg base "cap_of" 2 ["bounds", "height"] sp_cap_of) (cheight_for : Cal P w K mg base "height_for" 4 ["bounds", "height", "shelf", "key"] sp_height_for) (cevened : Cal P w K mg base "evened" 4 ["bounds", "low", "shelf", "key", "amount"] sp_evened) (xFull : Xc K mg "Full") :
    Cal P w K mg base "put_writes" 5 ["bounds", "height", "shelf", "key", "amount"] sp_put_writes :=
  cal_ok F hm scput_writes b w_put_writes len_put_writes (fun cdv A outer s H E hr =>
    ss_cons (ss_set (i := 5) scput_writes.nd rfl (by first | exact Or.inl rfl | exact Or.inr rfl) (se_callC cplace_of hr (by decide) (by rfl) tk_def (sa_cons (se_var 2) (sa_cons (se_var 3) (sa_nil)))))
    (ss_cons (ss_if (st_notN (se_var 5)) (ss_one (ss_ret (se_lst (sa_cons (se_tup (sa_cons (se_var 5) (sa_cons (se_tup (sa_cons (se_var 3) (sa_cons (se_var 4) (sa_nil)))) (sa_nil)))) (sa_nil))))) (ss_nil))
    (ss_cons (ss_if (st_ge (se_callC cheld hr (by decide) (by rfl) tk_def (sa_cons (se_var 2) (sa_cons (se_int) (sa_cons (se_callB call_len pb_len (by rfl) B.len (by decide +kernel) (sa_cons (se_var 2) (sa_nil))) (sa_nil))))) (se_callC ccap_of hr (by decide) (by rfl) tk_def (sa_cons (se_var 0) (sa_cons (se_var 1) (sa_nil))))) (ss_one (ss_raise rfl tk_def xFull (by rfl))) (ss_nil))
    (ss_one (ss_ret (se_callC cevened hr (by decide) (by rfl) tk_def (sa_cons (se_var 0) (sa_cons (se_callC cheight_for hr (by decide) (by rfl) tk_def (sa_cons (se_var 0) (sa_cons (se_var 1) (sa_cons (se_var 2) (sa_cons (se_var 3) (sa_nil)))))) (sa_cons (se_var 2) (sa_cons (se_var 3) (sa_cons (se_var 4) (sa_nil)))))))))))) ob_put_writes
theorem calKeeper_excess {f : Addr} {fd : FuncData} (B : Bi mg) (F : Fun K "excess" "Keeper.excess" sKeeper_excess f fd) (cKeeper_shelf : CalM P w K mg base "Keeper" "shelf" 4 ["self"] sp_Keeper_shelf []) (cexcess_of : Cal P w K mg base "excess_of" 4 ["bounds", "height", "shelf"] sp_excess_of) (cfKeeper : ClsF K mg "Keeper" ["bounds", "slabs", "many_puts", "many_moves", "many_laid", "first_excess", "first_over"]) :
    FnOk P w K mg base (L2.CX P w) 5 f fd ["self"] (spOf K mg sp_Keeper_excess) :=
  fn_ok F scKeeper_excess w_Keeper_excess len_Keeper_excess (fun cdv A outer s H E hr =>
    ss_one (ss_ret (se_callC cexcess_of hr (by decide) (by rfl) tk_def (sa_cons (se_fld cfKeeper (by simp) (se_var 0)) (sa_cons (se_ix (se_ix (se_ix (se_fld cfKeeper (by simp) (se_var 0)) (se_int) (fun _ _ => rfl)) (se_int) (fun _ _ => rfl)) (se_int) (fun _ _ => rfl)) (sa_cons (se_meth0 cKeeper_shelf hr (by decide) tk_def (se_var 0)) (sa_nil))))))) ob_Keeper_excess
theorem calKeeper_over {f : Addr} {fd : FuncData} (B : Bi mg) (F : Fun K "over" "Keeper.over" sKeeper_over f fd) (cKeeper_shelf : CalM P w K mg base "Keeper" "shelf" 4 ["self"] sp_Keeper_shelf []) (cover_of : Cal P w K mg base "over_of" 3 ["bounds", "height", "shelf"] sp_over_of) (cfKeeper : ClsF K mg "Keeper" ["bounds", "slabs", "many_puts", "many_moves", "many_laid", "first_excess", "first_over"]) :
    FnOk P w K mg base (L2.CX P w) 5 f fd ["self"] (spOf K mg sp_Keeper_over) :=
  fn_ok F scKeeper_over w_Keeper_over len_Keeper_over (fun cdv A outer s H E hr =>
    ss_one (ss_ret (se_callC cover_of hr (by decide) (by rfl) tk_def (sa_cons (se_fld cfKeeper (by simp) (se_var 0)) (sa_cons (se_ix (se_ix (se_ix (se_fld cfKeeper (by simp) (se_var 0)) (se_int) (fun _ _ => rfl)) (se_int) (fun _ _ => rfl)) (se_int) (fun _ _ => rfl)) (sa_cons (se_meth0 cKeeper_shelf hr (by decide) tk_def (se_var 0)) (sa_nil))))))) ob_Keeper_over
theorem calKeeper_rows {f : Addr} {fd : FuncData} (B : Bi mg) (F : Fun K "rows" "Keeper.rows" sKeeper_rows f fd) (cKeeper_shelf : CalM P w K mg base "Keeper" "shelf" 4 ["self"] sp_Keeper_shelf []) (crows_of : Cal P w K mg base "rows_of" 3 ["shelf"] sp_rows_of) :
    FnOk P w K mg base (L2.CX P w) 5 f fd ["self"] (spOf K mg sp_Keeper_rows) :=
  fn_ok F scKeeper_rows w_Keeper_rows len_Keeper_rows (fun cdv A outer s H E hr =>
    ss_one (ss_ret (se_callC crows_of hr (by decide) (by rfl) tk_def (sa_cons (se_meth0 cKeeper_shelf hr (by decide) tk_def (se_var 0)) (sa_nil))))) ob_Keeper_rows
theorem caldisk_put {f : Addr} {fd : FuncData} (B : Bi mg) (F : Fun K "disk_put" "disk_put" sdisk_put f fd) (hm : mg "disk_put" = some (.ref f)) (b : Binds K fd ["bounds", "disk", "key", "amount"] []) (cshelf_on : Cal P w K mg base "shelf_on" 3 ["bounds", "disk"] sp_shelf_on) (cplace_of : Cal P w K mg base "place_of" 1 ["shelf", "key"] sp_place_of) (cheld : Cal P w K mg base "held" 1 ["shelf", "first", "behind"] sp_held) (ccap_of : Cal P w K mg base "cap_of" 2 ["bounds", "height"] sp_cap_of) (cgrow_writes : Cal P w K mg base "grow_writes" 4 ["bounds", "disk"] sp_grow_writes) (cwritten : Cal P w K mg base "written" 1 ["disk", "writes"] sp_written) (cput_writes : Cal P w K mg base "put_writes" 5 ["bounds", "height", "shelf", "key", "amount"] sp_put_writes) :
    Cal P w K mg base "disk_put" 6 ["bounds", "disk", "key", "amount"] sp_disk_put :=
  cal_ok F hm scdisk_put b w_disk_put len_disk_put (fun cdv A outer s H E hr =>
    ss_cons (ss_set (i := 4) scdisk_put.nd rfl (by first | exact Or.inl rfl | exact Or.inr rfl) (se_ix (se_ix (se_ix (se_var 1) (se_int) (fun _ _ => rfl)) (se_int) (fun _ _ => rfl)) (se_int) (fun _ _ => rfl)))
    (ss_cons (ss_set (i := 5) scdisk_put.nd rfl (by first | exact Or.inl rfl | exact Or.inr rfl) (se_callC cshelf_on hr (by decide) (by rfl) tk_def (sa_cons (se_var 0) (sa_cons (se_var 1) (sa_nil)))))
    (ss_cons (ss_set (i := 6) scdisk_put.nd rfl (by first | exact Or.inl rfl | exact Or.inr rfl) (se_lst (sa_nil)))
    (ss_cons (ss_set (i := 7) scdisk_put.nd rfl (by first | exact Or.inl rfl | exact Or.inr rfl) (se_var 1))
    (ss_cons (ss_if ((st_and (st_lt (se_var 4) (se_ix (se_var 0) (se_int) (fun _ _ => rfl))) (st_and (st_isN (se_callC cplace_of hr (by decide) (by rfl) tk_def (sa_cons (se_var 5) (sa_cons (se_var 2) (sa_nil))))) (st_one (st_ge (se_callC cheld hr (by decide) (by rfl) tk_def (sa_cons (se_var 5) (sa_cons (se_int) (sa_cons (se_callB call_len pb_len (by rfl) B.len (by decide +kernel) (sa_cons (se_var 5) (sa_nil))) (sa_nil))))) (se_callC ccap_of hr (by decide) (by rfl) tk_def (sa_cons (se_var 0) (sa_cons (se_var 4) (sa_nil)))))))).pt) (ss_cons (ss_set (i := 6) scdisk_put.nd rfl (by first | exact Or.inl rfl | exact Or.inr rfl) (se_callC cgrow_writes hr (by decide) (by rfl) tk_def (sa_cons (se_var 0) (sa_cons (se_var 1) (sa_nil)))))
    (ss_one (ss_set (i := 7) scdisk_put.nd rfl (by first | exact Or.inl rfl | exact Or.inr rfl) (se_callC cwritten hr (by decide) (by rfl) tk_def (sa_cons (se_var 1) (sa_cons (se_var 6) (sa_nil))))))) (ss_nil))
    (ss_cons (ss_asg (sg_tup (is := [8, 4]) rfl (pgs_cons (pg_name (i := 8) scdisk_put.nd rfl (by first | exact Or.inl rfl | exact Or.inr rfl)) (pgs_cons (pg_name (i := 4) scdisk_put.nd rfl (by first | exact Or.inl rfl | exact Or.inr rfl)) (pgs_nil)))) (se_ix (se_ix (se_var 7) (se_int) (fun _ _ => rfl)) (se_int) (fun _ _ => rfl)))
    (ss_cons (ss_for hp_def rfl (sg_tup (is := [9, 10]) rfl (pgs_cons (pg_name (i := 9) scdisk_put.nd rfl (by first | exact Or.inl rfl | exact Or.inr rfl)) (pgs_cons (pg_name (i := 10) scdisk_put.nd rfl (by first | exact Or.inl rfl | exact Or.inr rfl)) (pgs_nil)))) (se_callC cput_writes hr (by decide) (by rfl) tk_def (sa_cons (se_var 0) (sa_cons (se_var 4) (sa_cons (se_callC cshelf_on hr (by decide) (by rfl) tk_def (sa_cons (se_var 0) (sa_cons (se_var 7) (sa_nil)))) (sa_cons (se_var 2) (sa_cons (se_var 3) (sa_nil))))))) (ss_one (ss_expr (se_append (se_var 6) (se_tup (sa_cons (se_var 8) (sa_cons (se_var 9) (sa_cons (se_var 10) (sa_nil)))))))))
    (ss_one (ss_ret (se_var 6)))))))))) ob_disk_put
theorem calKeeper_come_up {f : Addr} {fd : FuncData} (B : Bi mg) (F : Fun K "come_up" "Keeper.come_up" sKeeper_come_up f fd) (cKeeper_shelf : CalM P w K mg base "Keeper" "shelf" 4 ["self"] sp_Keeper_shelf []) (csecond_of : Cal P w K mg base "second_of" 1 ["shelf"] sp_second_of) (cKeeper_excess : CalM P w K mg base "Keeper" "excess" 5 ["self"] sp_Keeper_excess []) (cKeeper_over : CalM P w K mg base "Keeper" "over" 5 ["self"] sp_Keeper_over []) (cfKeeper : ClsF K mg "Keeper" ["bounds", "slabs", "many_puts", "many_moves", "many_laid", "first_excess", "first_over"]) :
    FnOk P w K mg base (L2.CX P w) 6 f fd ["self"] (spOf K mg sp_Keeper_come_up) :=
  fn_ok F scKeeper_come_up w_Keeper_come_up len_Keeper_come_up (fun cdv A outer s H E hr =>
    ss_cons (ss_set (i := 1) scKeeper_come_up.nd rfl (by first | exact Or.inl rfl | exact Or.inr rfl) (se_callC csecond_of hr (by decide) (by rfl) tk_def (sa_cons (se_meth0 cKeeper_shelf hr (by decide) tk_def (se_var 0)) (sa_nil))))
    (ss_cons (ss_if (st_notN (se_var 1)) (ss_one (ss_sub (se_ix (se_fld cfKeeper (by simp) (se_var 0)) (se_ix (se_ix (se_ix (se_fld cfKeeper (by simp) (se_var 0)) (se_int) (fun _ _ => rfl)) (se_int) (fun _ _ => rfl)) (se_int) (fun _ _ => rfl)) (fun _ _ => rfl)) (se_var 1) (se_tup (sa_nil)))) (ss_nil))
    (ss_cons (ss_fld cfKeeper (by simp) (se_var 0) (se_int))
    (ss_cons (ss_fld cfKeeper (by simp) (se_var 0) (se_int))
    (ss_cons (ss_fld cfKeeper (by simp) (se_var 0) (se_int))
    (ss_cons (ss_fld cfKeeper (by simp) (se_var 0) (se_meth0 cKeeper_excess hr (by decide) tk_def (se_var 0)))
    (ss_one (ss_fld cfKeeper (by simp) (se_var 0) (se_meth0 cKeeper_over hr (by decide) tk_def (se_var 0)))))))))) ob_Keeper_come_up
theorem cal_law_shot {f : Addr} {fd : FuncData} (B : Bi mg) (F : Fun K "_law_shot" "_law_shot" s_law_shot f fd) (hm : mg "_law_shot" = some (.ref f)) (b : Binds K fd ["keeper"] []) (cKeeper_disk : CalM P w K mg base "Keeper" "disk" 2 ["self"] sp_Keeper_disk []) (cKeeper_rows : CalM P w K mg base "Keeper" "rows" 5 ["self"] sp_Keeper_rows []) (cKeeper_counts : CalM P w K mg base "Keeper" "counts" 1 ["self"] sp_Keeper_counts []) (cKeeper_excess : CalM P w K mg base "Keeper" "excess" 5 ["self"] sp_Keeper_excess []) (cKeeper_over : CalM P w K mg base "Keeper" "over" 5 ["self"] sp_Keeper_over []) :
    Cal P w K mg base "_law_shot" 6 ["keeper"] sp_law_shot :=
  cal_ok F hm sc_law_shot b w_law_shot len_law_shot (fun cdv A outer s H E hr =>
    ss_one (ss_ret (se_lst (sa_cons (se_meth0 cKeeper_disk hr (by decide) tk_def (se_var 0)) (sa_cons (se_meth0 cKeeper_rows hr (by decide) tk_def (se_var 0)) (sa_cons (se_meth0 cKeeper_counts hr (by decide) tk_def (se_var 0)) (sa_cons (se_meth0 cKeeper_excess hr (by decide) tk_def (se_var 0)) (sa_cons (se_meth0 cKeeper_over hr (by decide) tk_def (se_var 0)) (sa_nil))))))))) ob_law_shot
theorem calKeeper_init {f : Addr} {fd : FuncData} (B : Bi mg) (F : Fun K "__init__" "Keeper.__init__" sKeeper_init f fd) (cis_bounds : Cal P w K mg base "is_bounds" 2 ["thing"] sp_is_bounds) (cis_disk : Cal P w K mg base "is_disk" 4 ["bounds", "thing"] sp_is_disk) (cwritten : Cal P w K mg base "written" 1 ["disk", "writes"] sp_written) (cKeeper_come_up : CalM P w K mg base "Keeper" "come_up" 6 ["self"] sp_Keeper_come_up []) (cfKeeper : ClsF K mg "Keeper" ["bounds", "slabs", "many_puts", "many_moves", "many_laid", "first_excess", "first_over"]) (xBadBounds : Xc K mg "BadBounds") (xBadDisk : Xc K mg "BadDisk") :
    FnOk P w K mg base (L2.CX P w) 7 f fd ["self", "bounds", "disk"] (spOf K mg sp_Keeper_init) :=
  fn_ok F scKeeper_init w_Keeper_init len_Keeper_init (fun cdv A outer s H E hr =>
    ss_cons (ss_if (st_not (st_val (se_callC cis_bounds hr (by decide) (by rfl) tk_def (sa_cons (se_var 1) (sa_nil))))) (ss_one (ss_raise rfl tk_def xBadBounds (by rfl))) (ss_nil))
    (ss_cons (ss_if (st_not (st_val (se_callC cis_disk hr (by decide) (by rfl) tk_def (sa_cons (se_var 1) (sa_cons (se_var 2) (sa_nil)))))) (ss_one (ss_raise rfl tk_def xBadDisk (by rfl))) (ss_nil))
    (ss_cons (ss_fld cfKeeper (by simp) (se_var 0) (se_var 1))
    (ss_cons (ss_fld cfKeeper (by simp) (se_var 0) (se_callC cwritten hr (by decide) (by rfl) tk_def (sa_cons (se_var 2) (sa_cons (se_lst (sa_nil)) (sa_nil)))))
    (ss_one (ss_expr (se_meth0 cKeeper_come_up hr (by decide) tk_def (se_var 0)))))))) ob_Keeper_init
theorem calKeeper_write_all {f : Addr} {fd : FuncData} (B : Bi mg) (F : Fun K "write_all" "Keeper.write_all" sKeeper_write_all f fd) (cwritten : Cal P w K mg base "written" 1 ["disk", "writes"] sp_written) (cKeeper_come_up : CalM P w K mg base "Keeper" "come_up" 6 ["self"] sp_Keeper_come_up []) (cfKeeper : ClsF K mg "Keeper" ["bounds", "slabs", "many_puts", "many_moves", "many_laid", "first_excess", "first_over"]) :
    FnOk P w K mg base (L2.CX P w) 7 f fd ["self", "writes", "most"] (spOf K mg sp_Keeper_write_all) :=
  fn_ok F scKeeper_write_all w_Keeper_write_all len_Keeper_write_all (fun cdv A outer s H E hr =>
    ss_cons (ss_if ((st_or (st_isN (se_var 2)) (st_one (st_ge (se_var 2) (se_callB call_len pb_len (by rfl) B.len (by decide +kernel) (sa_cons (se_var 1) (sa_nil)))))).pt) (ss_cons (ss_fld cfKeeper (by simp) (se_var 0) (se_callC cwritten hr (by decide) (by rfl) tk_def (sa_cons (se_fld cfKeeper (by simp) (se_var 0)) (sa_cons (se_var 1) (sa_nil)))))
    (ss_one (ss_ret (se_bl)))) (ss_nil))
    (ss_cons (ss_fld cfKeeper (by simp) (se_var 0) (se_callC cwritten hr (by decide) (by rfl) tk_def (sa_cons (se_fld cfKeeper (by simp) (se_var 0)) (sa_cons (se_sl (se_var 1) .none (.some (se_var 2))) (sa_nil)))))
    (ss_cons (ss_expr (se_meth0 cKeeper_come_up hr (by decide) tk_def (se_var 0)))
    (ss_one (ss_ret (se_bl)))))) ob_Keeper_write_all
theorem calKeeper_put {f : Addr} {fd : FuncData} (B : Bi mg) (F : FunD K "put" "Keeper.put" (defArgs sKeeper_put) (defBody sKeeper_put) (defScope sKeeper_put) [V.non] [] f fd) (cdisk_put : Cal P w K mg base "disk_put" 6 ["bounds", "disk", "key", "amount"] sp_disk_put) (cKeeper_shelf : CalM P w K mg base "Keeper" "shelf" 4 ["self"] sp_Keeper_shelf []) (cplace_of : Cal P w K mg base "place_of" 1 ["shelf", "key"] sp_place_of) (cKeeper_write_all : CalM P w K mg base "Keeper" "write_all" 7 ["self", "writes", "most"] sp_Keeper_write_all []) (crows_of : Cal P w K mg base "rows_of" 3 ["shelf"] sp_rows_of) (cfKeeper : ClsF K mg "Keeper" ["bounds", "slabs", "many_puts", "many_moves", "many_laid", "first_excess", "first_over"]) :
    FnOk P w K mg base (L2.CX P w) 8 f fd ["self", "key", "amount", "most"] (spOf K mg sp_Keeper_put) :=
  fn_okD F scKeeper_put w_Keeper_put len_Keeper_put (fun cdv A outer s H E hr =>
    ss_cons (ss_set (i := 4) scKeeper_put.nd rfl (by first | exact Or.inl rfl | exact Or.inr rfl) (se_callC cdisk_put hr (by decide) (by rfl) tk_def (sa_cons (se_fld cfKeeper (by simp) (se_var 0)) (sa_cons (se_fld cfKeeper (by simp) (se_var 0)) (sa_cons (se_var 1) (sa_cons (se_var 2) (sa_nil)))))))
    (ss_cons (ss_set (i := 5) scKeeper_put.nd rfl (by first | exact Or.inl rfl | exact Or.inr rfl) (se_meth0 cKeeper_shelf hr (by decide) tk_def (se_var 0)))
    (ss_cons (ss_set (i := 6) scKeeper_put.nd rfl (by first | exact Or.inl rfl | exact Or.inr rfl) (se_isN (se_callC cplace_of hr (by decide) (by rfl) tk_def (sa_cons (se_var 5) (sa_cons (se_var 1) (sa_nil))))))
    (ss_cons (ss_setLc (i := 7) rfl scKeeper_put.nd rfl rfl (sw_true rfl rfl rfl (by decide +kernel)) (pi_range1 (by rfl) B.range (pa_cons (se_callB call_len pb_len (by rfl) B.len (by decide +kernel) (sa_cons (se_var 4) (sa_nil))) pa_nil)) (blkOk_by (own := [("k", 8)]) (show blkC n_Keeper_put (defScope sKeeper_put) _ _ = true by decide +kernel)) rfl (fun _ _ _ _ _ => pg_name (i := 8) scKeeper_put.nd rfl (by first | exact Or.inl rfl | exact Or.inr rfl)) (lc_goR1 (of_name _ 8)) (fun _ _ _ _ _ => sts_one (st_eq hr.units (se_ix (se_ix (se_var 4) (se_var 8) (fun _ _ => rfl)) (se_int) (fun _ _ => rfl)) (se_int))) (fun _ _ _ _ _ => se_var 8))
    (ss_cons (ss_if (st_not (st_val (se_meth cKeeper_write_all hr (by decide) tk_def (se_var 0) (sa_cons (se_var 4) (sa_cons (se_var 3) (sa_nil)))))) (ss_one (ss_ret (se_var 3))) (ss_nil))
    (ss_cons (ss_if (st_val (se_var 6)) (ss_cons (ss_fld cfKeeper (by simp) (se_var 0) (se_add (se_fld cfKeeper (by simp) (se_var 0)) (se_int)))
    (ss_cons (ss_set (i := 9) scKeeper_put.nd rfl (by first | exact Or.inl rfl | exact Or.inr rfl) (se_int))
    (ss_cons (ss_if (st_ne hr.units (se_var 7) (se_lst (sa_nil))) (ss_cons (ss_set (i := 9) scKeeper_put.nd rfl (by first | exact Or.inl rfl | exact Or.inr rfl) (se_add (se_ix (se_var 7) (se_int) (fun _ _ => rfl)) (se_int)))
    (ss_one (ss_fld cfKeeper (by simp) (se_var 0) (se_add (se_fld cfKeeper (by simp) (se_var 0)) (se_callB call_len pb_len (by rfl) B.len (by decide +kernel) (sa_cons (se_callC crows_of hr (by decide) (by rfl) tk_def (sa_cons (se_var 5) (sa_nil))) (sa_nil))))))) (ss_nil))
    (ss_one (ss_fld cfKeeper (by simp) (se_var 0) (se_add (se_fld cfKeeper (by simp) (se_var 0)) (se_div (se_sub (se_callB call_len pb_len (by rfl) B.len (by decide +kernel) (sa_cons (se_var 4) (sa_nil))) (se_var 9)) (se_int)))))))) (ss_nil))
    (ss_one (ss_ret (se_callB call_len pb_len (by rfl) B.len (by decide +kernel) (sa_cons (se_var 4) (sa_nil))))))))))) ob_Keeper_put
theorem calKeeper_take {f : Addr} {fd : FuncData} (B : Bi mg) (F : FunD K "take" "Keeper.take" (defArgs sKeeper_take) (defBody sKeeper_take) (defScope sKeeper_take) [V.non] [] f fd) (cdisk_take : Cal P w K mg base "disk_take" 4 ["bounds", "disk", "key"] sp_disk_take) (cKeeper_write_all : CalM P w K mg base "Keeper" "write_all" 7 ["self", "writes", "most"] sp_Keeper_write_all []) (cfKeeper : ClsF K mg "Keeper" ["bounds", "slabs", "many_puts", "many_moves", "many_laid", "first_excess", "first_over"]) :
    FnOk P w K mg base (L2.CX P w) 8 f fd ["self", "key", "most"] (spOf K mg sp_Keeper_take) :=
  fn_okD F scKeeper_take w_Keeper_take len_Keeper_take (fun cdv A outer s H E hr =>
    ss_cons (ss_set (i := 3) scKeeper_take.nd rfl (by first | exact Or.inl rfl | exact Or.inr rfl) (se_callC cdisk_take hr (by decide) (by rfl) tk_def (sa_cons (se_fld cfKeeper (by simp) (se_var 0)) (sa_cons (se_fld cfKeeper (by simp) (se_var 0)) (sa_cons (se_var 1) (sa_nil))))))
    (ss_cons (ss_if (st_not (st_val (se_meth cKeeper_write_all hr (by decide) tk_def (se_var 0) (sa_cons (se_var 3) (sa_cons (se_var 2) (sa_nil)))))) (ss_one (ss_ret (se_var 2))) (ss_nil))
    (ss_one (ss_ret (se_callB call_len pb_len (by rfl) B.len (by decide +kernel) (sa_cons (se_var 3) (sa_nil))))))) ob_Keeper_take
theorem cal_law_kinds {f : Addr} {fd : FuncData} (B : Bi mg) (F : Fun K "_law_kinds" "_law_kinds" s_law_kinds f fd) (hm : mg "_law_kinds" = some (.ref f)) (b : Binds K fd ["keeper", "key", "cell"] []) (cKeeper_putD : CalM P w K mg base "Keeper" "put" 8 ["self", "key", "amount", "most"] sp_Keeper_put [.non]) (cKeeper_put : CalM P w K mg base "Keeper" "put" 8 ["self", "key", "amount", "most"] sp_Keeper_put []) (cKeeper_takeD : CalM P w K mg base "Keeper" "take" 8 ["self", "key", "most"] sp_Keeper_take [.non]) (cKeeper_take : CalM P w K mg base "Keeper" "take" 8 ["self", "key", "most"] sp_Keeper_take []) (xtShelfError : XT K mg "ShelfError" ["Full", "NoKey"]) (vE : mg "ValueError" = none) (xi : XI K mg ["Full", "NoKey"] ["Full", "NoKey", "BadBounds", "BadDisk", "NoText", "NoRow"]) :
    Cal P w K mg base "_law_kinds" 9 ["keeper", "key", "cell"] sp_law_kinds :=
  cal_ok F hm sc_law_kinds b w_law_kinds len_law_kinds (fun cdv A outer s H E hr =>
    ss_cons (ss_set (i := 3) sc_law_kinds.nd rfl (by first | exact Or.inl rfl | exact Or.inr rfl) (se_lst (sa_nil)))
    (ss_cons (ss_set (i := 4) sc_law_kinds.nd rfl (by first | exact Or.inl rfl | exact Or.inr rfl) (se_ix (se_lst (sa_cons (se_int) (sa_cons (se_int) (sa_cons (se_int) (sa_nil))))) (se_mod (se_div (se_var 2) (se_int)) (se_int)) (fun _ _ => rfl)))
    (ss_cons (ss_try_as (i := 5) (cs := ["Full", "NoKey"]) rfl rfl sc_law_kinds.nd rfl rfl (by rfl) xtShelfError tk_def (fun W pn xe tk hp => ss_one (ss_if (st_eq hr.units (se_mod (se_var 2) (se_int)) (se_int)) (ss_one (ss_expr (se_meth cKeeper_putD hr (by decide) tk (se_var 0) (sa_cons (se_var 1) (sa_cons (se_int) (sa_nil)))))) (ss_one (ss_if (st_eq hr.units (se_mod (se_var 2) (se_int)) (se_int)) (ss_one (ss_expr (se_meth cKeeper_put hr (by decide) tk (se_var 0) (sa_cons (se_var 1) (sa_cons (se_int) (sa_cons (se_var 4) (sa_nil))))))) (ss_one (ss_if (st_eq hr.units (se_mod (se_var 2) (se_int)) (se_int)) (ss_one (ss_expr (se_meth cKeeper_takeD hr (by decide) tk (se_var 0) (sa_cons (se_var 1) (sa_nil))))) (ss_one (ss_expr (se_meth cKeeper_take hr (by decide) tk (se_var 0) (sa_cons (se_var 1) (sa_cons (se_var 4) (sa_nil)))))))))))) (fun c C hc hm a oe pn hz hf => ss_cons (ss_set (i := 3) sc_law_kinds.nd rfl (by first | exact Or.inl rfl | exact Or.inr rfl) (se_lst (sa_cons (se_isE xi hc hm hz hf (by simp) (by rfl) B.isinstance (by rfl)) (sa_cons (se_isE xi hc hm hz hf (by simp) (by rfl) B.isinstance (by rfl)) (sa_cons (se_isET xi hc hm hz hf (CT.cons (by simp) (by rfl) (by decide) (by rfl) (CT.cons (by simp) (by rfl) (by decide) (by rfl) (CT.cons (by simp) (by rfl) (by decide) (by rfl) (CT.cons (by simp) (by rfl) (by decide) (by rfl) CT.nil)))) (by decide) (by rfl) B.isinstance) (sa_nil))))))
    (ss_one (ss_expr (se_append (se_var 3) (se_isEV xi hc hm hz hf (by rfl) B.isinstance (by rfl) vE))))))
    (ss_one (ss_ret (se_var 3)))))) ob_law_kinds
theorem fn_law {f : Addr} {fd : FuncData} (B : Bi mg) (F : Fun K "law" "law" slaw f fd) (c_law_cell : Cal P w K mg base "_law_cell" 1 ["script", "k"] sp_law_cell) (c_law_bounds : Cal P w K mg base "_law_bounds" 2 ["cell"] sp_law_bounds) (c_law_spread : Cal P w K mg base "_law_spread" 1 ["cell"] sp_law_spread) (c_law_cap : Cal P w K mg base "_law_cap" 2 ["bounds", "height"] sp_law_cap) (c_law_filled : Cal P w K mg base "_law_filled" 2 ["bounds", "height", "cell", "many"] sp_law_filled) (c_law_disk : Cal P w K mg base "_law_disk" 3 ["bounds", "height", "which", "shelf", "cell"] sp_law_disk) (cKeeper_init : CalI P w K mg base "Keeper" 7 ["self", "bounds", "disk"] sp_Keeper_init) (c_law_shot : Cal P w K mg base "_law_shot" 6 ["keeper"] sp_law_shot) (c_law_kinds : Cal P w K mg base "_law_kinds" 9 ["keeper", "key", "cell"] sp_law_kinds) :
    FnOk P w K mg base (L2.CX P w) 10 f fd ["script"] (spOf K mg spLaw) :=
  fn_ok F sclaw w_law len_law (fun cdv A outer s H E hr =>
    ss_cons (ss_set (i := 1) sclaw.nd rfl (by first | exact Or.inl rfl | exact Or.inr rfl) (se_callC c_law_bounds hr (by decide) (by rfl) tk_def (sa_cons (se_callC c_law_cell hr (by decide) (by rfl) tk_def (sa_cons (se_var 0) (sa_cons (se_int) (sa_nil)))) (sa_nil))))
    (ss_cons (ss_set (i := 2) sclaw.nd rfl (by first | exact Or.inl rfl | exact Or.inr rfl) (se_callC c_law_spread hr (by decide) (by rfl) tk_def (sa_cons (se_callC c_law_cell hr (by decide) (by rfl) tk_def (sa_cons (se_var 0) (sa_cons (se_int) (sa_nil)))) (sa_nil))))
    (ss_cons (ss_if (st_gt (se_ix (se_var 1) (se_int) (fun _ _ => rfl)) (se_int)) (ss_one (ss_set (i := 1) sclaw.nd rfl (by first | exact Or.inl rfl | exact Or.inr rfl) (se_tup (sa_cons (se_int) (sa_cons (se_ix (se_var 1) (se_int) (fun _ _ => rfl)) (sa_cons (se_ix (se_var 1) (se_int) (fun _ _ => rfl)) (sa_nil))))))) (ss_nil))
    (ss_cons (ss_set (i := 3) sclaw.nd rfl (by first | exact Or.inl rfl | exact Or.inr rfl) (se_ix (se_lst (sa_cons (se_mod (se_div (se_var 2) (se_int)) (se_add (se_ix (se_var 1) (se_int) (fun _ _ => rfl)) (se_int))) (sa_cons (se_ix (se_var 1) (se_int) (fun _ _ => rfl)) (sa_nil)))) (se_mod (se_var 2) (se_int)) (fun _ _ => rfl)))
    (ss_cons (ss_set (i := 4) sclaw.nd rfl (by first | exact Or.inl rfl | exact Or.inr rfl) (se_and (se_eq hr.units (se_var 3) (se_ix (se_var 1) (se_int) (fun _ _ => rfl))) (se_one (se_eq hr.units (se_mod (se_div (se_var 2) (se_int)) (se_int)) (se_int)))))
    (ss_cons (ss_set (i := 5) sclaw.nd rfl (by first | exact Or.inl rfl | exact Or.inr rfl) (se_callC c_law_filled hr (by decide) (by rfl) tk_def (sa_cons (se_var 1) (sa_cons (se_var 3) (sa_cons (se_var 2) (sa_cons (se_sub (se_callC c_law_cap hr (by decide) (by rfl) tk_def (sa_cons (se_var 1) (sa_cons (se_var 3) (sa_nil)))) (se_mul (se_callTy call_int1 pb_int (by rfl) B.int (by decide +kernel) (sa_cons (se_not (se_var 4)) (sa_nil))) (se_add (se_int) (se_mod (se_div (se_var 2) (se_int)) (se_int))))) (sa_nil)))))))
    (ss_cons (ss_set (i := 6) sclaw.nd rfl (by first | exact Or.inl rfl | exact Or.inr rfl) (se_make cKeeper_init hr (by decide) (by rfl) tk_def (sa_cons (se_var 1) (sa_cons (se_callC c_law_disk hr (by decide) (by rfl) tk_def (sa_cons (se_var 1) (sa_cons (se_var 3) (sa_cons (se_mod (se_div (se_var 2) (se_int)) (se_int)) (sa_cons (se_var 5) (sa_cons (se_var 2) (sa_nil))))))) (sa_nil)))))
    (ss_cons (ss_setLc (i := 7) rfl sclaw.nd rfl rfl (sw_true rfl rfl rfl (by decide +kernel)) (pi_list (se_var 5)) (blkOk_by (own := [("thing", 8)]) (show blkC n_law (defScope slaw) _ _ = true by decide +kernel)) rfl (fun _ _ _ _ _ => pg_name (i := 8) sclaw.nd rfl (by first | exact Or.inl rfl | exact Or.inr rfl)) (lc_go (of_name _ 8)) (fun _ _ _ _ _ => sts_one (st_ne hr.units (se_var 8) (se_tup (sa_nil)))) (fun _ _ _ _ _ => se_ix (se_var 8) (se_int) (fun _ _ => rfl)))
    (ss_cons (ss_for hp_def rfl (sg_name (i := 9) sclaw.nd rfl (by first | exact Or.inl rfl | exact Or.inr rfl)) (se_lc rfl sclaw.nd (se_add (se_lst (sa_cons (se_int) (sa_nil))) (se_sl (se_var 0) (.some (se_int)) (.some (se_int)))) (blkOk_by (own := [("one", 10)]) (show blkC n_law (defScope slaw) _ _ = true by decide +kernel)) rfl (fun _ _ _ _ _ => pg_name (i := 10) sclaw.nd rfl (by first | exact Or.inl rfl | exact Or.inr rfl)) (of_name _ 10) (fun _ _ _ _ _ => sts_nil) (fun _ _ _ _ _ => se_callC c_law_spread hr (by decide) (by rfl) takes0 (sa_cons (se_var 10) (sa_nil)))) (ss_cons (ss_set (i := 11) sclaw.nd rfl (by first | exact Or.inl rfl | exact Or.inr rfl) (se_ix (se_lst (sa_cons (se_mod (se_var 9) (se_pow (se_int) (se_int))) (sa_cons (se_neg (se_mod (se_var 9) (se_pow (se_int) (se_int)))) (sa_nil)))) (se_mod (se_div (se_var 9) (se_int)) (se_int)) (fun _ _ => rfl)))
    (ss_cons (ss_if ((st_and (st_ne hr.units (se_var 7) (se_lst (sa_nil))) (st_one (st_eq hr.units (se_mod (se_div (se_var 9) (se_int)) (se_int)) (se_int)))).pt) (ss_one (ss_set (i := 11) sclaw.nd rfl (by first | exact Or.inl rfl | exact Or.inr rfl) (se_add (se_ix (se_var 7) (se_mod (se_div (se_var 9) (se_int)) (se_callB call_len pb_len (by rfl) B.len (by decide +kernel) (sa_cons (se_var 7) (sa_nil)))) (fun _ _ => rfl)) (se_int)))) (ss_nil))
    (ss_one (ss_if ((st_and (st_notinList (hu_of hr) (se_var 11) (se_var 7)) (st_one ((st_or (st_gt (se_mod (se_var 9) (se_int)) (se_int)) (st_one (st_val (se_var 4)))).pt))).pt) (ss_cons (ss_set (i := 12) sclaw.nd rfl (by first | exact Or.inl rfl | exact Or.inr rfl) (se_callC c_law_shot hr (by decide) (by rfl) tk_def (sa_cons (se_var 6) (sa_nil))))
    (ss_cons (ss_set (i := 13) sclaw.nd rfl (by first | exact Or.inl rfl | exact Or.inr rfl) (se_lst (sa_cons (se_lt (se_mod (se_var 9) (se_int)) (se_int)) (sa_cons (se_gt (se_mod (se_var 9) (se_int)) (se_int)) (sa_cons (se_bl) (sa_cons (se_bl) (sa_nil)))))))
    (ss_one (ss_if ((st_or (st_ne hr.units (se_callC c_law_kinds hr (by decide) (by rfl) tk_def (sa_cons (se_var 6) (sa_cons (se_var 11) (sa_cons (se_var 9) (sa_nil))))) (se_var 13)) (st_one (st_ne hr.units (se_callC c_law_shot hr (by decide) (by rfl) tk_def (sa_cons (se_var 6) (sa_nil))) (se_var 12)))).pt) (ss_one (ss_ret (se_bl))) (ss_nil))))) (ss_nil))))))
    (ss_one (ss_ret (se_eq hr.units (se_callC c_law_kinds hr (by decide) (by rfl) tk_def (sa_cons (se_var 6) (sa_cons (se_sub (se_callB (cr_min rfl) pb_minL (by rfl) B.min (by decide +kernel) (sa_cons (se_add (se_var 7) (se_lst (sa_cons (se_int) (sa_nil)))) (sa_nil))) (se_int)) (sa_cons (se_int) (sa_nil))))) (se_lst (sa_cons (se_bl) (sa_cons (se_bl) (sa_cons (se_bl) (sa_cons (se_bl) (sa_nil)))))))))))))))))) ob_law
end
theorem all_mk {l : PySem.W.OpenLaw} {w : World} {K : PySem.W.Frag} {h : Heap} {mg : Str → Option Value} {fa f0 f1 f2 f3 f4 f5 f6 f7 f8 f9 f10 f11 f12 f13 f14 f15 f16 f17 f18 f19 f20 f21 f22 f23 f24 f25 f26 f27 f28 f29 f30 f31 f32 f33 f34 f35 f36 f37 f38 f39 f40 f41 f42 f43 f44 f45 f46 f47 f48 f49 f50 f51 f52 f53 f54 f55 f56 C_NoKey C_Full C_BadBounds C_BadDisk C_ShelfError C_NoText C_NoRow C_Keeper : Addr} (X : K.In h) (G : h.Ns mainGlobals mg) (hfa : mg "law" = some (.ref fa))
    {od0 an0 od1 an1 od2 an2 od3 an3 od4 an4 od5 an5 od6 an6 od7 an7 od8 an8 od9 an9 od10 an10 od11 an11 od12 an12 od13 an13 od14 an14 od15 an15 od16 an16 od17 an17 od18 an18 od19 an19 od20 an20 od21 an21 od22 an22 od23 an23 od24 an24 od25 an25 od26 an26 od27 an27 od28 an28 od29 an29 od30 an30 od31 an31 od32 an32 od33 an33 od34 an34 od35 an35 od36 an36 od37 an37 od38 an38 od39 an39 od40 an40 od41 an41 od42 an42 od43 an43 od44 an44 od45 an45 od46 an46 od47 an47 od48 an48 od49 an49 od50 an50 od51 an51 od52 an52 od53 an53 od54 an54 od55 an55 od56 an56 : Option Addr}
    {T40 T41 : Addr} {odT40 odT41 : Option Addr} {oT40 oT41 : Value} {slT40 slT41 : Array (Option Value)} {nT40 nT41 : Nat}
    {sl0 sl1 sl2 sl3 sl4 sl5 sl6 sl7 sl8 sl9 sl10 sl11 sl12 sl13 sl14 sl15 sl16 sl17 sl18 sl19 sl20 sl21 sl22 sl23 sl24 sl25 sl26 sl27 sl28 sl29 sl30 sl31 sl32 sl33 sl34 sl35 sl36 sl37 sl38 sl39 sl40 sl41 sl42 sl43 sl44 sl45 sl46 sl47 sl48 sl49 sl50 sl51 sl52 sl53 sl54 sl55 sl56 : Array (Option Value)} {oc0 kV0 dc0 pm0 cd0 ct0 oc1 kV1 dc1 pm1 cd1 ct1 oc2 kV2 dc2 pm2 cd2 ct2 oc3 kV3 dc3 pm3 cd3 ct3 oc4 kV4 dc4 pm4 cd4 ct4 oc5 kV5 dc5 pm5 cd5 ct5 oc6 kV6 dc6 pm6 cd6 ct6 oc7 kV7 dc7 pm7 cd7 ct7 oc8 kV8 dc8 pm8 cd8 ct8 oc9 kV9 dc9 pm9 cd9 ct9 oc10 kV10 dc10 pm10 cd10 ct10 oc11 kV11 dc11 pm11 cd11 ct11 oc12 kV12 dc12 pm12 cd12 ct12 oc13 kV13 dc13 pm13 cd13 ct13 oc14 kV14 dc14 pm14 cd14 ct14 oc15 kV15 dc15 pm15 cd15 ct15 oc16 kV16 dc16 pm16 cd16 ct16 oc17 kV17 dc17 pm17 cd17 ct17 oc18 kV18 dc18 pm18 cd18 ct18 oc19 kV19 dc19 pm19 cd19 ct19 oc20 kV20 dc20 pm20 cd20 ct20 oc21 kV21 dc21 pm21 cd21 ct21 oc22 kV22 dc22 pm22 cd22 ct22 oc23 kV23 dc23 pm23 cd23 ct23 oc24 kV24 dc24 pm24 cd24 ct24 oc25 kV25 dc25 pm25 cd25 ct25 oc26 kV26 dc26 pm26 cd26 ct26 oc27 kV27 dc27 pm27 cd27 ct27 oc28 kV28 dc28 pm28 cd28 ct28 oc29 kV29 dc29 pm29 cd29 ct29 oc30 kV30 dc30 pm30 cd30 ct30 oc31 kV31 dc31 pm31 cd31 ct31 oc32 kV32 dc32 pm32 cd32 ct32 oc33 kV33 dc33 pm33 cd33 ct33 oc34 kV34 dc34 pm34 cd34 ct34 oc35 kV35 dc35 pm35 cd35 ct35 oc36 kV36 dc36 pm36 cd36 ct36 oc37 kV37 dc37 pm37 cd37 ct37 oc38 kV38 dc38 pm38 cd38 ct38 oc39 kV39 dc39 pm39 cd39 ct39 oc40 kV40 dc40 pm40 cd40 ct40 oc41 kV41 dc41 pm41 cd41 ct41 oc42 kV42 dc42 pm42 cd42 ct42 oc43 kV43 dc43 pm43 cd43 ct43 oc44 kV44 dc44 pm44 cd44 ct44 oc45 kV45 dc45 pm45 cd45 ct45 oc46 kV46 dc46 pm46 cd46 ct46 oc47 kV47 dc47 pm47 cd47 ct47 oc48 kV48 dc48 pm48 cd48 ct48 oc49 kV49 dc49 pm49 cd49 ct49 oc50 kV50 dc50 pm50 cd50 ct50 oc51 kV51 dc51 pm51 cd51 ct51 oc52 kV52 dc52 pm52 cd52 ct52 oc53 kV53 dc53 pm53 cd53 ct53 oc54 kV54 dc54 pm54 cd54 ct54 oc55 kV55 dc55 pm55 cd55 ct55 oc56 kV56 dc56 pm56 cd56 ct56 : Value}
    (a0 : PySem.W.nsIn K mainGlobals "is_whole" = some (some (.ref f0))) (l0 : K.lookup f0 = some ⟨oc0, od0, .func (PySem.W.fnOf "is_whole" "is_whole" (defArgs sis_whole) (defBody sis_whole) (defScope sis_whole) .none kV0 dc0 pm0 an0 cd0 ct0), sl0⟩) (c0 : PySem.W.codeIn K cd0 "is_whole" = true) (k0 : PySem.W.keepIn K (.ref f0) = true)
    (a1 : PySem.W.nsIn K mainGlobals "is_bounds" = some (some (.ref f1))) (l1 : K.lookup f1 = some ⟨oc1, od1, .func (PySem.W.fnOf "is_bounds" "is_bounds" (defArgs sis_bounds) (defBody sis_bounds) (defScope sis_bounds) .none kV1 dc1 pm1 an1 cd1 ct1), sl1⟩) (c1 : PySem.W.codeIn K cd1 "is_bounds" = true) (k1 : PySem.W.keepIn K (.ref f1) = true)
    (a2 : PySem.W.nsIn K mainGlobals "twofold" = some (some (.ref f2))) (l2 : K.lookup f2 = some ⟨oc2, od2, .func (PySem.W.fnOf "twofold" "twofold" (defArgs stwofold) (defBody stwofold) (defScope stwofold) .none kV2 dc2 pm2 an2 cd2 ct2), sl2⟩) (c2 : PySem.W.codeIn K cd2 "twofold" = true) (k2 : PySem.W.keepIn K (.ref f2) = true)
    (a3 : PySem.W.nsIn K mainGlobals "places_of" = some (some (.ref f3))) (l3 : K.lookup f3 = some ⟨oc3, od3, .func (PySem.W.fnOf "places_of" "places_of" (defArgs splaces_of) (defBody splaces_of) (defScope splaces_of) .none kV3 dc3 pm3 an3 cd3 ct3), sl3⟩) (c3 : PySem.W.codeIn K cd3 "places_of" = true) (k3 : PySem.W.keepIn K (.ref f3) = true)
    (a4 : PySem.W.nsIn K mainGlobals "stretch_of" = some (some (.ref f4))) (l4 : K.lookup f4 = some ⟨oc4, od4, .func (PySem.W.fnOf "stretch_of" "stretch_of" (defArgs sstretch_of) (defBody sstretch_of) (defScope sstretch_of) .none kV4 dc4 pm4 an4 cd4 ct4), sl4⟩) (c4 : PySem.W.codeIn K cd4 "stretch_of" = true) (k4 : PySem.W.keepIn K (.ref f4) = true)
    (a5 : PySem.W.nsIn K mainGlobals "cap_of" = some (some (.ref f5))) (l5 : K.lookup f5 = some ⟨oc5, od5, .func (PySem.W.fnOf "cap_of" "cap_of" (defArgs scap_of) (defBody scap_of) (defScope scap_of) .none kV5 dc5 pm5 an5 cd5 ct5), sl5⟩) (c5 : PySem.W.codeIn K cd5 "cap_of" = true) (k5 : PySem.W.keepIn K (.ref f5) = true)
    (a6 : PySem.W.nsIn K mainGlobals "calm_of" = some (some (.ref f6))) (l6 : K.lookup f6 = some ⟨oc6, od6, .func (PySem.W.fnOf "calm_of" "calm_of" (defArgs scalm_of) (defBody scalm_of) (defScope scalm_of) .none kV6 dc6 pm6 an6 cd6 ct6), sl6⟩) (c6 : PySem.W.codeIn K cd6 "calm_of" = true) (k6 : PySem.W.keepIn K (.ref f6) = true)
    (a7 : PySem.W.nsIn K mainGlobals "second_of" = some (some (.ref f7))) (l7 : K.lookup f7 = some ⟨oc7, od7, .func (PySem.W.fnOf "second_of" "second_of" (defArgs ssecond_of) (defBody ssecond_of) (defScope ssecond_of) .none kV7 dc7 pm7 an7 cd7 ct7), sl7⟩) (c7 : PySem.W.codeIn K cd7 "second_of" = true) (k7 : PySem.W.keepIn K (.ref f7) = true)
    (a8 : PySem.W.nsIn K mainGlobals "is_straight" = some (some (.ref f8))) (l8 : K.lookup f8 = some ⟨oc8, od8, .func (PySem.W.fnOf "is_straight" "is_straight" (defArgs sis_straight) (defBody sis_straight) (defScope sis_straight) .none kV8 dc8 pm8 an8 cd8 ct8), sl8⟩) (c8 : PySem.W.codeIn K cd8 "is_straight" = true) (k8 : PySem.W.keepIn K (.ref f8) = true)
    (a9 : PySem.W.nsIn K mainGlobals "mended" = some (some (.ref f9))) (l9 : K.lookup f9 = some ⟨oc9, od9, .func (PySem.W.fnOf "mended" "mended" (defArgs smended) (defBody smended) (defScope smended) .none kV9 dc9 pm9 an9 cd9 ct9), sl9⟩) (c9 : PySem.W.codeIn K cd9 "mended" = true) (k9 : PySem.W.keepIn K (.ref f9) = true)
    (a10 : PySem.W.nsIn K mainGlobals "is_sound" = some (some (.ref f10))) (l10 : K.lookup f10 = some ⟨oc10, od10, .func (PySem.W.fnOf "is_sound" "is_sound" (defArgs sis_sound) (defBody sis_sound) (defScope sis_sound) .none kV10 dc10 pm10 an10 cd10 ct10), sl10⟩) (c10 : PySem.W.codeIn K cd10 "is_sound" = true) (k10 : PySem.W.keepIn K (.ref f10) = true)
    (a11 : PySem.W.nsIn K mainGlobals "rows_of" = some (some (.ref f11))) (l11 : K.lookup f11 = some ⟨oc11, od11, .func (PySem.W.fnOf "rows_of" "rows_of" (defArgs srows_of) (defBody srows_of) (defScope srows_of) .none kV11 dc11 pm11 an11 cd11 ct11), sl11⟩) (c11 : PySem.W.codeIn K cd11 "rows_of" = true) (k11 : PySem.W.keepIn K (.ref f11) = true)
    (a12 : PySem.W.nsIn K mainGlobals "held" = some (some (.ref f12))) (l12 : K.lookup f12 = some ⟨oc12, od12, .func (PySem.W.fnOf "held" "held" (defArgs sheld) (defBody sheld) (defScope sheld) .none kV12 dc12 pm12 an12 cd12 ct12), sl12⟩) (c12 : PySem.W.codeIn K cd12 "held" = true) (k12 : PySem.W.keepIn K (.ref f12) = true)
    (a13 : PySem.W.nsIn K mainGlobals "excess_at" = some (some (.ref f13))) (l13 : K.lookup f13 = some ⟨oc13, od13, .func (PySem.W.fnOf "excess_at" "excess_at" (defArgs sexcess_at) (defBody sexcess_at) (defScope sexcess_at) .none kV13 dc13 pm13 an13 cd13 ct13), sl13⟩) (c13 : PySem.W.codeIn K cd13 "excess_at" = true) (k13 : PySem.W.keepIn K (.ref f13) = true)
    (a14 : PySem.W.nsIn K mainGlobals "excess_of" = some (some (.ref f14))) (l14 : K.lookup f14 = some ⟨oc14, od14, .func (PySem.W.fnOf "excess_of" "excess_of" (defArgs sexcess_of) (defBody sexcess_of) (defScope sexcess_of) .none kV14 dc14 pm14 an14 cd14 ct14), sl14⟩) (c14 : PySem.W.codeIn K cd14 "excess_of" = true) (k14 : PySem.W.keepIn K (.ref f14) = true)
    (a15 : PySem.W.nsIn K mainGlobals "over_of" = some (some (.ref f15))) (l15 : K.lookup f15 = some ⟨oc15, od15, .func (PySem.W.fnOf "over_of" "over_of" (defArgs sover_of) (defBody sover_of) (defScope sover_of) .none kV15 dc15 pm15 an15 cd15 ct15), sl15⟩) (c15 : PySem.W.codeIn K cd15 "over_of" = true) (k15 : PySem.W.keepIn K (.ref f15) = true)
    (a16 : PySem.W.nsIn K mainGlobals "targets" = some (some (.ref f16))) (l16 : K.lookup f16 = some ⟨oc16, od16, .func (PySem.W.fnOf "targets" "targets" (defArgs stargets) (defBody stargets) (defScope stargets) .none kV16 dc16 pm16 an16 cd16 ct16), sl16⟩) (c16 : PySem.W.codeIn K cd16 "targets" = true) (k16 : PySem.W.keepIn K (.ref f16) = true)
    (a17 : PySem.W.nsIn K mainGlobals "moves_of" = some (some (.ref f17))) (l17 : K.lookup f17 = some ⟨oc17, od17, .func (PySem.W.fnOf "moves_of" "moves_of" (defArgs smoves_of) (defBody smoves_of) (defScope smoves_of) .none kV17 dc17 pm17 an17 cd17 ct17), sl17⟩) (c17 : PySem.W.codeIn K cd17 "moves_of" = true) (k17 : PySem.W.keepIn K (.ref f17) = true)
    (a18 : PySem.W.nsIn K mainGlobals "writes_of" = some (some (.ref f18))) (l18 : K.lookup f18 = some ⟨oc18, od18, .func (PySem.W.fnOf "writes_of" "writes_of" (defArgs swrites_of) (defBody swrites_of) (defScope swrites_of) .none kV18 dc18 pm18 an18 cd18 ct18), sl18⟩) (c18 : PySem.W.codeIn K cd18 "writes_of" = true) (k18 : PySem.W.keepIn K (.ref f18) = true)
    (a19 : PySem.W.nsIn K mainGlobals "place_of" = some (some (.ref f19))) (l19 : K.lookup f19 = some ⟨oc19, od19, .func (PySem.W.fnOf "place_of" "place_of" (defArgs splace_of) (defBody splace_of) (defScope splace_of) .none kV19 dc19 pm19 an19 cd19 ct19), sl19⟩) (c19 : PySem.W.codeIn K cd19 "place_of" = true) (k19 : PySem.W.keepIn K (.ref f19) = true)
    (a20 : PySem.W.nsIn K mainGlobals "seat_of" = some (some (.ref f20))) (l20 : K.lookup f20 = some ⟨oc20, od20, .func (PySem.W.fnOf "seat_of" "seat_of" (defArgs sseat_of) (defBody sseat_of) (defScope sseat_of) .none kV20 dc20 pm20 an20 cd20 ct20), sl20⟩) (c20 : PySem.W.codeIn K cd20 "seat_of" = true) (k20 : PySem.W.keepIn K (.ref f20) = true)
    (a21 : PySem.W.nsIn K mainGlobals "height_for" = some (some (.ref f21))) (l21 : K.lookup f21 = some ⟨oc21, od21, .func (PySem.W.fnOf "height_for" "height_for" (defArgs sheight_for) (defBody sheight_for) (defScope sheight_for) .none kV21 dc21 pm21 an21 cd21 ct21), sl21⟩) (c21 : PySem.W.codeIn K cd21 "height_for" = true) (k21 : PySem.W.keepIn K (.ref f21) = true)
    (a22 : PySem.W.nsIn K mainGlobals "evened" = some (some (.ref f22))) (l22 : K.lookup f22 = some ⟨oc22, od22, .func (PySem.W.fnOf "evened" "evened" (defArgs sevened) (defBody sevened) (defScope sevened) .none kV22 dc22 pm22 an22 cd22 ct22), sl22⟩) (c22 : PySem.W.codeIn K cd22 "evened" = true) (k22 : PySem.W.keepIn K (.ref f22) = true)
    (a23 : PySem.W.nsIn K mainGlobals "put_writes" = some (some (.ref f23))) (l23 : K.lookup f23 = some ⟨oc23, od23, .func (PySem.W.fnOf "put_writes" "put_writes" (defArgs sput_writes) (defBody sput_writes) (defScope sput_writes) .none kV23 dc23 pm23 an23 cd23 ct23), sl23⟩) (c23 : PySem.W.codeIn K cd23 "put_writes" = true) (k23 : PySem.W.keepIn K (.ref f23) = true)
    (a24 : PySem.W.nsIn K mainGlobals "take_writes" = some (some (.ref f24))) (l24 : K.lookup f24 = some ⟨oc24, od24, .func (PySem.W.fnOf "take_writes" "take_writes" (defArgs stake_writes) (defBody stake_writes) (defScope stake_writes) .none kV24 dc24 pm24 an24 cd24 ct24), sl24⟩) (c24 : PySem.W.codeIn K cd24 "take_writes" = true) (k24 : PySem.W.keepIn K (.ref f24) = true)
    (a25 : PySem.W.nsIn K mainGlobals "is_pair" = some (some (.ref f25))) (l25 : K.lookup f25 = some ⟨oc25, od25, .func (PySem.W.fnOf "is_pair" "is_pair" (defArgs sis_pair) (defBody sis_pair) (defScope sis_pair) .none kV25 dc25 pm25 an25 cd25 ct25), sl25⟩) (c25 : PySem.W.codeIn K cd25 "is_pair" = true) (k25 : PySem.W.keepIn K (.ref f25) = true)
    (a26 : PySem.W.nsIn K mainGlobals "is_area" = some (some (.ref f26))) (l26 : K.lookup f26 = some ⟨oc26, od26, .func (PySem.W.fnOf "is_area" "is_area" (defArgs sis_area) (defBody sis_area) (defScope sis_area) .none kV26 dc26 pm26 an26 cd26 ct26), sl26⟩) (c26 : PySem.W.codeIn K cd26 "is_area" = true) (k26 : PySem.W.keepIn K (.ref f26) = true)
    (a27 : PySem.W.nsIn K mainGlobals "is_sign" = some (some (.ref f27))) (l27 : K.lookup f27 = some ⟨oc27, od27, .func (PySem.W.fnOf "is_sign" "is_sign" (defArgs sis_sign) (defBody sis_sign) (defScope sis_sign) .none kV27 dc27 pm27 an27 cd27 ct27), sl27⟩) (c27 : PySem.W.codeIn K cd27 "is_sign" = true) (k27 : PySem.W.keepIn K (.ref f27) = true)
    (a28 : PySem.W.nsIn K mainGlobals "shelf_on" = some (some (.ref f28))) (l28 : K.lookup f28 = some ⟨oc28, od28, .func (PySem.W.fnOf "shelf_on" "shelf_on" (defArgs sshelf_on) (defBody sshelf_on) (defScope sshelf_on) .none kV28 dc28 pm28 an28 cd28 ct28), sl28⟩) (c28 : PySem.W.codeIn K cd28 "shelf_on" = true) (k28 : PySem.W.keepIn K (.ref f28) = true)
    (a29 : PySem.W.nsIn K mainGlobals "is_disk" = some (some (.ref f29))) (l29 : K.lookup f29 = some ⟨oc29, od29, .func (PySem.W.fnOf "is_disk" "is_disk" (defArgs sis_disk) (defBody sis_disk) (defScope sis_disk) .none kV29 dc29 pm29 an29 cd29 ct29), sl29⟩) (c29 : PySem.W.codeIn K cd29 "is_disk" = true) (k29 : PySem.W.keepIn K (.ref f29) = true)
    (a30 : PySem.W.nsIn K mainGlobals "written" = some (some (.ref f30))) (l30 : K.lookup f30 = some ⟨oc30, od30, .func (PySem.W.fnOf "written" "written" (defArgs swritten) (defBody swritten) (defScope swritten) .none kV30 dc30 pm30 an30 cd30 ct30), sl30⟩) (c30 : PySem.W.codeIn K cd30 "written" = true) (k30 : PySem.W.keepIn K (.ref f30) = true)
    (a31 : PySem.W.nsIn K mainGlobals "grow_writes" = some (some (.ref f31))) (l31 : K.lookup f31 = some ⟨oc31, od31, .func (PySem.W.fnOf "grow_writes" "grow_writes" (defArgs sgrow_writes) (defBody sgrow_writes) (defScope sgrow_writes) .none kV31 dc31 pm31 an31 cd31 ct31), sl31⟩) (c31 : PySem.W.codeIn K cd31 "grow_writes" = true) (k31 : PySem.W.keepIn K (.ref f31) = true)
    (a32 : PySem.W.nsIn K mainGlobals "disk_put" = some (some (.ref f32))) (l32 : K.lookup f32 = some ⟨oc32, od32, .func (PySem.W.fnOf "disk_put" "disk_put" (defArgs sdisk_put) (defBody sdisk_put) (defScope sdisk_put) .none kV32 dc32 pm32 an32 cd32 ct32), sl32⟩) (c32 : PySem.W.codeIn K cd32 "disk_put" = true) (k32 : PySem.W.keepIn K (.ref f32) = true)
    (a33 : PySem.W.nsIn K mainGlobals "disk_take" = some (some (.ref f33))) (l33 : K.lookup f33 = some ⟨oc33, od33, .func (PySem.W.fnOf "disk_take" "disk_take" (defArgs sdisk_take) (defBody sdisk_take) (defScope sdisk_take) .none kV33 dc33 pm33 an33 cd33 ct33), sl33⟩) (c33 : PySem.W.codeIn K cd33 "disk_take" = true) (k33 : PySem.W.keepIn K (.ref f33) = true)
    (a34 : PySem.W.findIn K (.ref C_Keeper) "__init__" = some (some (.ref f34))) (i34 : PySem.W.isFn K (.ref f34) = true) (l34 : K.lookup f34 = some ⟨oc34, od34, .func (PySem.W.fnOf "__init__" "Keeper.__init__" (defArgs sKeeper_init) (defBody sKeeper_init) (defScope sKeeper_init) .none kV34 dc34 pm34 an34 cd34 ct34), sl34⟩) (c34 : PySem.W.codeIn K cd34 "Keeper.__init__" = true) (k34 : PySem.W.keepIn K (.ref f34) = true)
    (a35 : PySem.W.findIn K (.ref C_Keeper) "shelf" = some (some (.ref f35))) (i35 : PySem.W.isFn K (.ref f35) = true) (l35 : K.lookup f35 = some ⟨oc35, od35, .func (PySem.W.fnOf "shelf" "Keeper.shelf" (defArgs sKeeper_shelf) (defBody sKeeper_shelf) (defScope sKeeper_shelf) .none kV35 dc35 pm35 an35 cd35 ct35), sl35⟩) (c35 : PySem.W.codeIn K cd35 "Keeper.shelf" = true) (k35 : PySem.W.keepIn K (.ref f35) = true)
    (a36 : PySem.W.findIn K (.ref C_Keeper) "come_up" = some (some (.ref f36))) (i36 : PySem.W.isFn K (.ref f36) = true) (l36 : K.lookup f36 = some ⟨oc36, od36, .func (PySem.W.fnOf "come_up" "Keeper.come_up" (defArgs sKeeper_come_up) (defBody sKeeper_come_up) (defScope sKeeper_come_up) .none kV36 dc36 pm36 an36 cd36 ct36), sl36⟩) (c36 : PySem.W.codeIn K cd36 "Keeper.come_up" = true) (k36 : PySem.W.keepIn K (.ref f36) = true)
    (a37 : PySem.W.findIn K (.ref C_Keeper) "excess" = some (some (.ref f37))) (i37 : PySem.W.isFn K (.ref f37) = true) (l37 : K.lookup f37 = some ⟨oc37, od37, .func (PySem.W.fnOf "excess" "Keeper.excess" (defArgs sKeeper_excess) (defBody sKeeper_excess) (defScope sKeeper_excess) .none kV37 dc37 pm37 an37 cd37 ct37), sl37⟩) (c37 : PySem.W.codeIn K cd37 "Keeper.excess" = true) (k37 : PySem.W.keepIn K (.ref f37) = true)
    (a38 : PySem.W.findIn K (.ref C_Keeper) "over" = some (some (.ref f38))) (i38 : PySem.W.isFn K (.ref f38) = true) (l38 : K.lookup f38 = some ⟨oc38, od38, .func (PySem.W.fnOf "over" "Keeper.over" (defArgs sKeeper_over) (defBody sKeeper_over) (defScope sKeeper_over) .none kV38 dc38 pm38 an38 cd38 ct38), sl38⟩) (c38 : PySem.W.codeIn K cd38 "Keeper.over" = true) (k38 : PySem.W.keepIn K (.ref f38) = true)
    (a39 : PySem.W.findIn K (.ref C_Keeper) "write_all" = some (some (.ref f39))) (i39 : PySem.W.isFn K (.ref f39) = true) (l39 : K.lookup f39 = some ⟨oc39, od39, .func (PySem.W.fnOf "write_all" "Keeper.write_all" (defArgs sKeeper_write_all) (defBody sKeeper_write_all) (defScope sKeeper_write_all) .none kV39 dc39 pm39 an39 cd39 ct39), sl39⟩) (c39 : PySem.W.codeIn K cd39 "Keeper.write_all" = true) (k39 : PySem.W.keepIn K (.ref f39) = true)
    (a40 : PySem.W.findIn K (.ref C_Keeper) "put" = some (some (.ref f40))) (i40 : PySem.W.isFn K (.ref f40) = true) (l40 : K.lookup f40 = some ⟨oc40, od40, .func (PySem.W.fnOf "put" "Keeper.put" (defArgs sKeeper_put) (defBody sKeeper_put) (defScope sKeeper_put) (.ref T40) kV40 dc40 pm40 an40 cd40 ct40), sl40⟩) (c40 : PySem.W.codeIn K cd40 "Keeper.put" = true) (k40 : PySem.W.keepIn K (.ref f40) = true)
    (t40 : K.lookup T40 = some ⟨oT40, odT40, .seq #[Value.none] nT40, slT40⟩)
    (a41 : PySem.W.findIn K (.ref C_Keeper) "take" = some (some (.ref f41))) (i41 : PySem.W.isFn K (.ref f41) = true) (l41 : K.lookup f41 = some ⟨oc41, od41, .func (PySem.W.fnOf "take" "Keeper.take" (defArgs sKeeper_take) (defBody sKeeper_take) (defScope sKeeper_take) (.ref T41) kV41 dc41 pm41 an41 cd41 ct41), sl41⟩) (c41 : PySem.W.codeIn K cd41 "Keeper.take" = true) (k41 : PySem.W.keepIn K (.ref f41) = true)
    (t41 : K.lookup T41 = some ⟨oT41, odT41, .seq #[Value.none] nT41, slT41⟩)
    (a42 : PySem.W.findIn K (.ref C_Keeper) "rows" = some (some (.ref f42))) (i42 : PySem.W.isFn K (.ref f42) = true) (l42 : K.lookup f42 = some ⟨oc42, od42, .func (PySem.W.fnOf "rows" "Keeper.rows" (defArgs sKeeper_rows) (defBody sKeeper_rows) (defScope sKeeper_rows) .none kV42 dc42 pm42 an42 cd42 ct42), sl42⟩) (c42 : PySem.W.codeIn K cd42 "Keeper.rows" = true) (k42 : PySem.W.keepIn K (.ref f42) = true)
    (a43 : PySem.W.findIn K (.ref C_Keeper) "disk" = some (some (.ref f43))) (i43 : PySem.W.isFn K (.ref f43) = true) (l43 : K.lookup f43 = some ⟨oc43, od43, .func (PySem.W.fnOf "disk" "Keeper.disk" (defArgs sKeeper_disk) (defBody sKeeper_disk) (defScope sKeeper_disk) .none kV43 dc43 pm43 an43 cd43 ct43), sl43⟩) (c43 : PySem.W.codeIn K cd43 "Keeper.disk" = true) (k43 : PySem.W.keepIn K (.ref f43) = true)
    (a44 : PySem.W.findIn K (.ref C_Keeper) "counts" = some (some (.ref f44))) (i44 : PySem.W.isFn K (.ref f44) = true) (l44 : K.lookup f44 = some ⟨oc44, od44, .func (PySem.W.fnOf "counts" "Keeper.counts" (defArgs sKeeper_counts) (defBody sKeeper_counts) (defScope sKeeper_counts) .none kV44 dc44 pm44 an44 cd44 ct44), sl44⟩) (c44 : PySem.W.codeIn K cd44 "Keeper.counts" = true) (k44 : PySem.W.keepIn K (.ref f44) = true)
    (a45 : PySem.W.nsIn K mainGlobals "_law_cell" = some (some (.ref f45))) (l45 : K.lookup f45 = some ⟨oc45, od45, .func (PySem.W.fnOf "_law_cell" "_law_cell" (defArgs s_law_cell) (defBody s_law_cell) (defScope s_law_cell) .none kV45 dc45 pm45 an45 cd45 ct45), sl45⟩) (c45 : PySem.W.codeIn K cd45 "_law_cell" = true) (k45 : PySem.W.keepIn K (.ref f45) = true)
    (a46 : PySem.W.nsIn K mainGlobals "_law_spread" = some (some (.ref f46))) (l46 : K.lookup f46 = some ⟨oc46, od46, .func (PySem.W.fnOf "_law_spread" "_law_spread" (defArgs s_law_spread) (defBody s_law_spread) (defScope s_law_spread) .none kV46 dc46 pm46 an46 cd46 ct46), sl46⟩) (c46 : PySem.W.codeIn K cd46 "_law_spread" = true) (k46 : PySem.W.keepIn K (.ref f46) = true)
    (a47 : PySem.W.nsIn K mainGlobals "_law_mixed" = some (some (.ref f47))) (l47 : K.lookup f47 = some ⟨oc47, od47, .func (PySem.W.fnOf "_law_mixed" "_law_mixed" (defArgs s_law_mixed) (defBody s_law_mixed) (defScope s_law_mixed) .none kV47 dc47 pm47 an47 cd47 ct47), sl47⟩) (c47 : PySem.W.codeIn K cd47 "_law_mixed" = true) (k47 : PySem.W.keepIn K (.ref f47) = true)
    (a48 : PySem.W.nsIn K mainGlobals "_law_bounds" = some (some (.ref f48))) (l48 : K.lookup f48 = some ⟨oc48, od48, .func (PySem.W.fnOf "_law_bounds" "_law_bounds" (defArgs s_law_bounds) (defBody s_law_bounds) (defScope s_law_bounds) .none kV48 dc48 pm48 an48 cd48 ct48), sl48⟩) (c48 : PySem.W.codeIn K cd48 "_law_bounds" = true) (k48 : PySem.W.keepIn K (.ref f48) = true)
    (a49 : PySem.W.nsIn K mainGlobals "_law_two" = some (some (.ref f49))) (l49 : K.lookup f49 = some ⟨oc49, od49, .func (PySem.W.fnOf "_law_two" "_law_two" (defArgs s_law_two) (defBody s_law_two) (defScope s_law_two) .none kV49 dc49 pm49 an49 cd49 ct49), sl49⟩) (c49 : PySem.W.codeIn K cd49 "_law_two" = true) (k49 : PySem.W.keepIn K (.ref f49) = true)
    (a50 : PySem.W.nsIn K mainGlobals "_law_filled" = some (some (.ref f50))) (l50 : K.lookup f50 = some ⟨oc50, od50, .func (PySem.W.fnOf "_law_filled" "_law_filled" (defArgs s_law_filled) (defBody s_law_filled) (defScope s_law_filled) .none kV50 dc50 pm50 an50 cd50 ct50), sl50⟩) (c50 : PySem.W.codeIn K cd50 "_law_filled" = true) (k50 : PySem.W.keepIn K (.ref f50) = true)
    (a51 : PySem.W.nsIn K mainGlobals "_law_area" = some (some (.ref f51))) (l51 : K.lookup f51 = some ⟨oc51, od51, .func (PySem.W.fnOf "_law_area" "_law_area" (defArgs s_law_area) (defBody s_law_area) (defScope s_law_area) .none kV51 dc51 pm51 an51 cd51 ct51), sl51⟩) (c51 : PySem.W.codeIn K cd51 "_law_area" = true) (k51 : PySem.W.keepIn K (.ref f51) = true)
    (a52 : PySem.W.nsIn K mainGlobals "_law_disk" = some (some (.ref f52))) (l52 : K.lookup f52 = some ⟨oc52, od52, .func (PySem.W.fnOf "_law_disk" "_law_disk" (defArgs s_law_disk) (defBody s_law_disk) (defScope s_law_disk) .none kV52 dc52 pm52 an52 cd52 ct52), sl52⟩) (c52 : PySem.W.codeIn K cd52 "_law_disk" = true) (k52 : PySem.W.keepIn K (.ref f52) = true)
    (a53 : PySem.W.nsIn K mainGlobals "_law_cap" = some (some (.ref f53))) (l53 : K.lookup f53 = some ⟨oc53, od53, .func (PySem.W.fnOf "_law_cap" "_law_cap" (defArgs s_law_cap) (defBody s_law_cap) (defScope s_law_cap) .none kV53 dc53 pm53 an53 cd53 ct53), sl53⟩) (c53 : PySem.W.codeIn K cd53 "_law_cap" = true) (k53 : PySem.W.keepIn K (.ref f53) = true)
    (a54 : PySem.W.nsIn K mainGlobals "_law_kinds" = some (some (.ref f54))) (l54 : K.lookup f54 = some ⟨oc54, od54, .func (PySem.W.fnOf "_law_kinds" "_law_kinds" (defArgs s_law_kinds) (defBody s_law_kinds) (defScope s_law_kinds) .none kV54 dc54 pm54 an54 cd54 ct54), sl54⟩) (c54 : PySem.W.codeIn K cd54 "_law_kinds" = true) (k54 : PySem.W.keepIn K (.ref f54) = true)
    (a55 : PySem.W.nsIn K mainGlobals "_law_shot" = some (some (.ref f55))) (l55 : K.lookup f55 = some ⟨oc55, od55, .func (PySem.W.fnOf "_law_shot" "_law_shot" (defArgs s_law_shot) (defBody s_law_shot) (defScope s_law_shot) .none kV55 dc55 pm55 an55 cd55 ct55), sl55⟩) (c55 : PySem.W.codeIn K cd55 "_law_shot" = true) (k55 : PySem.W.keepIn K (.ref f55) = true)
    (a56 : PySem.W.nsIn K mainGlobals "law" = some (some (.ref f56))) (l56 : K.lookup f56 = some ⟨oc56, od56, .func (PySem.W.fnOf "law" "law" (defArgs slaw) (defBody slaw) (defScope slaw) .none kV56 dc56 pm56 an56 cd56 ct56), sl56⟩) (c56 : PySem.W.codeIn K cd56 "law" = true) (k56 : PySem.W.keepIn K (.ref f56) = true)
    (z0 : PySem.W.nsIn K mainGlobals "len" = some none)
    (z1 : PySem.W.nsIn K mainGlobals "range" = some none)
    (z2 : PySem.W.nsIn K mainGlobals "isinstance" = some none)
    (z3 : PySem.W.nsIn K mainGlobals "int" = some none)
    (z4 : PySem.W.nsIn K mainGlobals "bool" = some none)
    (z5 : PySem.W.nsIn K mainGlobals "str" = some none)
    (z6 : PySem.W.nsIn K mainGlobals "tuple" = some none)
    (z7 : PySem.W.nsIn K mainGlobals "list" = some none)
    (z8 : PySem.W.nsIn K mainGlobals "dict" = some none)
    (z9 : PySem.W.nsIn K mainGlobals "max" = some none)
    (z10 : PySem.W.nsIn K mainGlobals "min" = some none)
    (z11 : PySem.W.nsIn K mainGlobals "sorted" = some none)
    (z12 : PySem.W.nsIn K mainGlobals "sum" = some none)
    (z13 : PySem.W.nsIn K mainGlobals "abs" = some none)
    (z14 : PySem.W.nsIn K mainGlobals "zip" = some none)
    (a_NoKey : PySem.W.nsIn K mainGlobals "NoKey" = some (some (.ref C_NoKey)))
    (xf_NoKey : PySem.W.excIn K C_NoKey [.type "ValueError", .type "Exception", .type "BaseException", .type "object"] "ValueError.__new__" = true)
    (kf_NoKey : PySem.W.keepIn K (.ref C_NoKey) = true)
    (bf_NoKey : PySem.W.subIn K (.ref C_NoKey) (.type "BaseException") = some true)
    (tf_NoKey : PySem.W.typeIn K (.ref C_NoKey) = some (.type "type"))
    (a_Full : PySem.W.nsIn K mainGlobals "Full" = some (some (.ref C_Full)))
    (xf_Full : PySem.W.excIn K C_Full [.type "ValueError", .type "Exception", .type "BaseException", .type "object"] "ValueError.__new__" = true)
    (kf_Full : PySem.W.keepIn K (.ref C_Full) = true)
    (bf_Full : PySem.W.subIn K (.ref C_Full) (.type "BaseException") = some true)
    (tf_Full : PySem.W.typeIn K (.ref C_Full) = some (.type "type"))
    (a_BadBounds : PySem.W.nsIn K mainGlobals "BadBounds" = some (some (.ref C_BadBounds)))
    (xf_BadBounds : PySem.W.excIn K C_BadBounds [.type "ValueError", .type "Exception", .type "BaseException", .type "object"] "ValueError.__new__" = true)
    (kf_BadBounds : PySem.W.keepIn K (.ref C_BadBounds) = true)
    (bf_BadBounds : PySem.W.subIn K (.ref C_BadBounds) (.type "BaseException") = some true)
    (tf_BadBounds : PySem.W.typeIn K (.ref C_BadBounds) = some (.type "type"))
    (a_BadDisk : PySem.W.nsIn K mainGlobals "BadDisk" = some (some (.ref C_BadDisk)))
    (xf_BadDisk : PySem.W.excIn K C_BadDisk [.type "ValueError", .type "Exception", .type "BaseException", .type "object"] "ValueError.__new__" = true)
    (kf_BadDisk : PySem.W.keepIn K (.ref C_BadDisk) = true)
    (bf_BadDisk : PySem.W.subIn K (.ref C_BadDisk) (.type "BaseException") = some true)
    (tf_BadDisk : PySem.W.typeIn K (.ref C_BadDisk) = some (.type "type"))
    (a_ShelfError : PySem.W.nsIn K mainGlobals "ShelfError" = some (some (.ref C_ShelfError)))
    (bf_ShelfError : PySem.W.subIn K (.ref C_ShelfError) (.type "BaseException") = some true)
    (hd_ShelfError : PySem.W.hasDictIn K C_ShelfError = true)
    (tf_ShelfError : PySem.W.typeIn K (.ref C_ShelfError) = some (.type "type"))
    (sb_Full_ShelfError : PySem.W.subIn K (.ref C_Full) (.ref C_ShelfError) = some true)
    (sb_NoKey_ShelfError : PySem.W.subIn K (.ref C_NoKey) (.ref C_ShelfError) = some true)
    (e_n : PySem.W.specialIn K (.builtin "object.__class__") "__get__" = some (some (.builtin "getset_descriptor.__get__")))
    (e_t : PySem.W.takesIn K (.builtin "object.__class__") = some true)
    (eg_Full : PySem.W.findIn K (.ref C_Full) "__getattribute__" = some (some (.builtin "BaseException.__getattribute__")))
    (ek_Full : PySem.W.findIn K (.ref C_Full) "__getattr__" = some none)
    (hd_Full : PySem.W.hasDictIn K C_Full = true)
    (ea_Full : PySem.W.findIn K (.ref C_Full) "__class__" = some (some (.builtin "object.__class__")))
    (em_Full : PySem.W.mroIn K C_Full (.type "object") = some true)
    (kv_Full : PySem.W.subIn K (.ref C_Full) (.type "ValueError") = some true)
    (kn_Full_NoKey : (Value.ref C_Full == Value.ref C_NoKey) = false)
    (hd_NoKey : PySem.W.hasDictIn K C_NoKey = true)
    (sb_Full_NoKey : PySem.W.subIn K (.ref C_Full) (.ref C_NoKey) = some false)
    (kn_Full_BadBounds : (Value.ref C_Full == Value.ref C_BadBounds) = false)
    (hd_BadBounds : PySem.W.hasDictIn K C_BadBounds = true)
    (sb_Full_BadBounds : PySem.W.subIn K (.ref C_Full) (.ref C_BadBounds) = some false)
    (kn_Full_BadDisk : (Value.ref C_Full == Value.ref C_BadDisk) = false)
    (hd_BadDisk : PySem.W.hasDictIn K C_BadDisk = true)
    (sb_Full_BadDisk : PySem.W.subIn K (.ref C_Full) (.ref C_BadDisk) = some false)
    (a_NoText : PySem.W.nsIn K mainGlobals "NoText" = some (some (.ref C_NoText)))
    (kn_Full_NoText : (Value.ref C_Full == Value.ref C_NoText) = false)
    (hd_NoText : PySem.W.hasDictIn K C_NoText = true)
    (tf_NoText : PySem.W.typeIn K (.ref C_NoText) = some (.type "type"))
    (sb_Full_NoText : PySem.W.subIn K (.ref C_Full) (.ref C_NoText) = some false)
    (a_NoRow : PySem.W.nsIn K mainGlobals "NoRow" = some (some (.ref C_NoRow)))
    (kn_Full_NoRow : (Value.ref C_Full == Value.ref C_NoRow) = false)
    (hd_NoRow : PySem.W.hasDictIn K C_NoRow = true)
    (tf_NoRow : PySem.W.typeIn K (.ref C_NoRow) = some (.type "type"))
    (sb_Full_NoRow : PySem.W.subIn K (.ref C_Full) (.ref C_NoRow) = some false)
    (eg_NoKey : PySem.W.findIn K (.ref C_NoKey) "__getattribute__" = some (some (.builtin "BaseException.__getattribute__")))
    (ek_NoKey : PySem.W.findIn K (.ref C_NoKey) "__getattr__" = some none)
    (ea_NoKey : PySem.W.findIn K (.ref C_NoKey) "__class__" = some (some (.builtin "object.__class__")))
    (em_NoKey : PySem.W.mroIn K C_NoKey (.type "object") = some true)
    (kv_NoKey : PySem.W.subIn K (.ref C_NoKey) (.type "ValueError") = some true)
    (kn_NoKey_Full : (Value.ref C_NoKey == Value.ref C_Full) = false)
    (sb_NoKey_Full : PySem.W.subIn K (.ref C_NoKey) (.ref C_Full) = some false)
    (kn_NoKey_BadBounds : (Value.ref C_NoKey == Value.ref C_BadBounds) = false)
    (sb_NoKey_BadBounds : PySem.W.subIn K (.ref C_NoKey) (.ref C_BadBounds) = some false)
    (kn_NoKey_BadDisk : (Value.ref C_NoKey == Value.ref C_BadDisk) = false)
    (sb_NoKey_BadDisk : PySem.W.subIn K (.ref C_NoKey) (.ref C_BadDisk) = some false)
    (kn_NoKey_NoText : (Value.ref C_NoKey == Value.ref C_NoText) = false)
    (sb_NoKey_NoText : PySem.W.subIn K (.ref C_NoKey) (.ref C_NoText) = some false)
    (kn_NoKey_NoRow : (Value.ref C_NoKey == Value.ref C_NoRow) = false)
    (sb_NoKey_NoRow : PySem.W.subIn K (.ref C_NoKey) (.ref C_NoRow) = some false)
    (z_VE : PySem.W.nsIn K mainGlobals "ValueError" = some none)
    (a_Keeper : PySem.W.nsIn K mainGlobals "Keeper" = some (some (.ref C_Keeper)))
    (pg_Keeper : PySem.W.plainGet K C_Keeper Str.empty = true)
    (hd_Keeper : PySem.W.hasDictIn K C_Keeper = true)
    (po_Keeper : PySem.W.plainOver K C_Keeper = true)
    (sa_Keeper : PySem.W.findIn K (.ref C_Keeper) "__setattr__" = some (some (.builtin "object.__setattr__")))
    (mk_Keeper : PySem.W.makesIn K C_Keeper = true)
    (kc_Keeper : PySem.W.keepIn K (.ref C_Keeper) = true)
    (na_Keeper_bounds : PySem.W.findIn K (.ref C_Keeper) "bounds" = some none)
    (na_Keeper_slabs : PySem.W.findIn K (.ref C_Keeper) "slabs" = some none)
    (na_Keeper_many_puts : PySem.W.findIn K (.ref C_Keeper) "many_puts" = some none)
    (na_Keeper_many_moves : PySem.W.findIn K (.ref C_Keeper) "many_moves" = some none)
    (na_Keeper_many_laid : PySem.W.findIn K (.ref C_Keeper) "many_laid" = some none)
    (na_Keeper_first_excess : PySem.W.findIn K (.ref C_Keeper) "first_excess" = some none)
    (na_Keeper_first_over : PySem.W.findIn K (.ref C_Keeper) "first_over" = some none)
    : ∃ fd : FuncData, (∀ (s : Shared) (v : Value), BindsTo s fd ⟨[v], []⟩ [("script", v)]) ∧ ∀ base : Heap, K.In base → base.Ns mainGlobals mg → FnOk l.prog w K mg base (L2.CX l.prog w) 10 fa fd ["script"] (spAll K) := by
  have e := hfa.symm.trans (PySem.W.mg_of X G a56)
  cases e
  have F0 := fun_mk (st := sis_whole) l0 c0 k0
  have b0 := F0.binds (ps := ["thing"]) fun _ _ _ _ _ _ us hl => match us, hl with | [_], _ => rfl
  have F1 := fun_mk (st := sis_bounds) l1 c1 k1
  have b1 := F1.binds (ps := ["thing"]) fun _ _ _ _ _ _ us hl => match us, hl with | [_], _ => rfl
  have F2 := fun_mk (st := stwofold) l2 c2 k2
  have b2 := F2.binds (ps := ["height"]) fun _ _ _ _ _ _ us hl => match us, hl with | [_], _ => rfl
  have F3 := fun_mk (st := splaces_of) l3 c3 k3
  have b3 := F3.binds (ps := ["bounds", "height"]) fun _ _ _ _ _ _ us hl => match us, hl with | [_, _], _ => rfl
  have F4 := fun_mk (st := sstretch_of) l4 c4 k4
  have b4 := F4.binds (ps := ["bounds", "height", "place"]) fun _ _ _ _ _ _ us hl => match us, hl with | [_, _, _], _ => rfl
  have F5 := fun_mk (st := scap_of) l5 c5 k5
  have b5 := F5.binds (ps := ["bounds", "height"]) fun _ _ _ _ _ _ us hl => match us, hl with | [_, _], _ => rfl
  have F6 := fun_mk (st := scalm_of) l6 c6 k6
  have b6 := F6.binds (ps := ["bounds", "height"]) fun _ _ _ _ _ _ us hl => match us, hl with | [_, _], _ => rfl
  have F7 := fun_mk (st := ssecond_of) l7 c7 k7
  have b7 := F7.binds (ps := ["shelf"]) fun _ _ _ _ _ _ us hl => match us, hl with | [_], _ => rfl
  have F8 := fun_mk (st := sis_straight) l8 c8 k8
  have b8 := F8.binds (ps := ["shelf"]) fun _ _ _ _ _ _ us hl => match us, hl with | [_], _ => rfl
  have F9 := fun_mk (st := smended) l9 c9 k9
  have b9 := F9.binds (ps := ["shelf"]) fun _ _ _ _ _ _ us hl => match us, hl with | [_], _ => rfl
  have F10 := fun_mk (st := sis_sound) l10 c10 k10
  have b10 := F10.binds (ps := ["shelf"]) fun _ _ _ _ _ _ us hl => match us, hl with | [_], _ => rfl
  have F11 := fun_mk (st := srows_of) l11 c11 k11
  have b11 := F11.binds (ps := ["shelf"]) fun _ _ _ _ _ _ us hl => match us, hl with | [_], _ => rfl
  have F12 := fun_mk (st := sheld) l12 c12 k12
  have b12 := F12.binds (ps := ["shelf", "first", "behind"]) fun _ _ _ _ _ _ us hl => match us, hl with | [_, _, _], _ => rfl
  have F13 := fun_mk (st := sexcess_at) l13 c13 k13
  have b13 := F13.binds (ps := ["bounds", "low", "shelf"]) fun _ _ _ _ _ _ us hl => match us, hl with | [_, _, _], _ => rfl
  have F14 := fun_mk (st := sexcess_of) l14 c14 k14
  have b14 := F14.binds (ps := ["bounds", "height", "shelf"]) fun _ _ _ _ _ _ us hl => match us, hl with | [_, _, _], _ => rfl
  have F15 := fun_mk (st := sover_of) l15 c15 k15
  have b15 := F15.binds (ps := ["bounds", "height", "shelf"]) fun _ _ _ _ _ _ us hl => match us, hl with | [_, _, _], _ => rfl
  have F16 := fun_mk (st := stargets) l16 c16 k16
  have b16 := F16.binds (ps := ["many", "size"]) fun _ _ _ _ _ _ us hl => match us, hl with | [_, _], _ => rfl
  have F17 := fun_mk (st := smoves_of) l17 c17 k17
  have b17 := F17.binds (ps := ["places", "aims"]) fun _ _ _ _ _ _ us hl => match us, hl with | [_, _], _ => rfl
  have F18 := fun_mk (st := swrites_of) l18 c18 k18
  have b18 := F18.binds (ps := ["shelf", "moves"]) fun _ _ _ _ _ _ us hl => match us, hl with | [_, _], _ => rfl
  have F19 := fun_mk (st := splace_of) l19 c19 k19
  have b19 := F19.binds (ps := ["shelf", "key"]) fun _ _ _ _ _ _ us hl => match us, hl with | [_, _], _ => rfl
  have F20 := fun_mk (st := sseat_of) l20 c20 k20
  have b20 := F20.binds (ps := ["shelf", "key"]) fun _ _ _ _ _ _ us hl => match us, hl with | [_, _], _ => rfl
  have F21 := fun_mk (st := sheight_for) l21 c21 k21
  have b21 := F21.binds (ps := ["bounds", "height", "shelf", "key"]) fun _ _ _ _ _ _ us hl => match us, hl with | [_, _, _, _], _ => rfl
  have F22 := fun_mk (st := sevened) l22 c22 k22
  have b22 := F22.binds (ps := ["bounds", "low", "shelf", "key", "amount"]) fun _ _ _ _ _ _ us hl => match us, hl with | [_, _, _, _, _], _ => rfl
  have F23 := fun_mk (st := sput_writes) l23 c23 k23
  have b23 := F23.binds (ps := ["bounds", "height", "shelf", "key", "amount"]) fun _ _ _ _ _ _ us hl => match us, hl with | [_, _, _, _, _], _ => rfl
  have F24 := fun_mk (st := stake_writes) l24 c24 k24
  have b24 := F24.binds (ps := ["shelf", "key"]) fun _ _ _ _ _ _ us hl => match us, hl with | [_, _], _ => rfl
  have F25 := fun_mk (st := sis_pair) l25 c25 k25
  have b25 := F25.binds (ps := ["thing"]) fun _ _ _ _ _ _ us hl => match us, hl with | [_], _ => rfl
  have F26 := fun_mk (st := sis_area) l26 c26 k26
  have b26 := F26.binds (ps := ["thing", "size"]) fun _ _ _ _ _ _ us hl => match us, hl with | [_, _], _ => rfl
  have F27 := fun_mk (st := sis_sign) l27 c27 k27
  have b27 := F27.binds (ps := ["bounds", "thing"]) fun _ _ _ _ _ _ us hl => match us, hl with | [_, _], _ => rfl
  have F28 := fun_mk (st := sshelf_on) l28 c28 k28
  have b28 := F28.binds (ps := ["bounds", "disk"]) fun _ _ _ _ _ _ us hl => match us, hl with | [_, _], _ => rfl
  have F29 := fun_mk (st := sis_disk) l29 c29 k29
  have b29 := F29.binds (ps := ["bounds", "thing"]) fun _ _ _ _ _ _ us hl => match us, hl with | [_, _], _ => rfl
  have F30 := fun_mk (st := swritten) l30 c30 k30
  have b30 := F30.binds (ps := ["disk", "writes"]) fun _ _ _ _ _ _ us hl => match us, hl with | [_, _], _ => rfl
  have F31 := fun_mk (st := sgrow_writes) l31 c31 k31
  have b31 := F31.binds (ps := ["bounds", "disk"]) fun _ _ _ _ _ _ us hl => match us, hl with | [_, _], _ => rfl
  have F32 := fun_mk (st := sdisk_put) l32 c32 k32
  have b32 := F32.binds (ps := ["bounds", "disk", "key", "amount"]) fun _ _ _ _ _ _ us hl => match us, hl with | [_, _, _, _], _ => rfl
  have F33 := fun_mk (st := sdisk_take) l33 c33 k33
  have b33 := F33.binds (ps := ["bounds", "disk", "key"]) fun _ _ _ _ _ _ us hl => match us, hl with | [_, _, _], _ => rfl
  have F34 := fun_mk (st := sKeeper_init) l34 c34 k34
  have b34 := F34.binds (ps := ["self", "bounds", "disk"]) fun _ _ _ _ _ _ us hl => match us, hl with | [_, _, _], _ => rfl
  have F35 := fun_mk (st := sKeeper_shelf) l35 c35 k35
  have b35 := F35.binds (ps := ["self"]) fun _ _ _ _ _ _ us hl => match us, hl with | [_], _ => rfl
  have F36 := fun_mk (st := sKeeper_come_up) l36 c36 k36
  have b36 := F36.binds (ps := ["self"]) fun _ _ _ _ _ _ us hl => match us, hl with | [_], _ => rfl
  have F37 := fun_mk (st := sKeeper_excess) l37 c37 k37
  have b37 := F37.binds (ps := ["self"]) fun _ _ _ _ _ _ us hl => match us, hl with | [_], _ => rfl
  have F38 := fun_mk (st := sKeeper_over) l38 c38 k38
  have b38 := F38.binds (ps := ["self"]) fun _ _ _ _ _ _ us hl => match us, hl with | [_], _ => rfl
  have F39 := fun_mk (st := sKeeper_write_all) l39 c39 k39
  have b39 := F39.binds (ps := ["self", "writes", "most"]) fun _ _ _ _ _ _ us hl => match us, hl with | [_, _, _], _ => rfl
  have F40 := fund_mk (st := sKeeper_put) l40 c40 k40 t40
  have b40 := fund_all F40 (ps := ["self", "key", "amount", "most"]) 4 rfl fun _ _ _ _ _ _ _ us its h1 h2 => match us, its, h1, h2 with | [_, _, _, _], [_], _, _ => ⟨_, rfl, rfl⟩
  have bD40 := fund_one F40 (ps := ["self", "key", "amount", "most"]) 3 rfl fun _ _ _ _ _ _ _ us its h1 h2 => match us, its, h1, h2 with | [_, _, _], [_], _, _ => ⟨_, rfl, rfl⟩
  have F41 := fund_mk (st := sKeeper_take) l41 c41 k41 t41
  have b41 := fund_all F41 (ps := ["self", "key", "most"]) 3 rfl fun _ _ _ _ _ _ _ us its h1 h2 => match us, its, h1, h2 with | [_, _, _], [_], _, _ => ⟨_, rfl, rfl⟩
  have bD41 := fund_one F41 (ps := ["self", "key", "most"]) 2 rfl fun _ _ _ _ _ _ _ us its h1 h2 => match us, its, h1, h2 with | [_, _], [_], _, _ => ⟨_, rfl, rfl⟩
  have F42 := fun_mk (st := sKeeper_rows) l42 c42 k42
  have b42 := F42.binds (ps := ["self"]) fun _ _ _ _ _ _ us hl => match us, hl with | [_], _ => rfl
  have F43 := fun_mk (st := sKeeper_disk) l43 c43 k43
  have b43 := F43.binds (ps := ["self"]) fun _ _ _ _ _ _ us hl => match us, hl with | [_], _ => rfl
  have F44 := fun_mk (st := sKeeper_counts) l44 c44 k44
  have b44 := F44.binds (ps := ["self"]) fun _ _ _ _ _ _ us hl => match us, hl with | [_], _ => rfl
  have F45 := fun_mk (st := s_law_cell) l45 c45 k45
  have b45 := F45.binds (ps := ["script", "k"]) fun _ _ _ _ _ _ us hl => match us, hl with | [_, _], _ => rfl
  have F46 := fun_mk (st := s_law_spread) l46 c46 k46
  have b46 := F46.binds (ps := ["cell"]) fun _ _ _ _ _ _ us hl => match us, hl with | [_], _ => rfl
  have F47 := fun_mk (st := s_law_mixed) l47 c47 k47
  have b47 := F47.binds (ps := ["cell", "k"]) fun _ _ _ _ _ _ us hl => match us, hl with | [_, _], _ => rfl
  have F48 := fun_mk (st := s_law_bounds) l48 c48 k48
  have b48 := F48.binds (ps := ["cell"]) fun _ _ _ _ _ _ us hl => match us, hl with | [_], _ => rfl
  have F49 := fun_mk (st := s_law_two) l49 c49 k49
  have b49 := F49.binds (ps := ["height"]) fun _ _ _ _ _ _ us hl => match us, hl with | [_], _ => rfl
  have F50 := fun_mk (st := s_law_filled) l50 c50 k50
  have b50 := F50.binds (ps := ["bounds", "height", "cell", "many"]) fun _ _ _ _ _ _ us hl => match us, hl with | [_, _, _, _], _ => rfl
  have F51 := fun_mk (st := s_law_area) l51 c51 k51
  have b51 := F51.binds (ps := ["cell", "k", "size", "things"]) fun _ _ _ _ _ _ us hl => match us, hl with | [_, _, _, _], _ => rfl
  have F52 := fun_mk (st := s_law_disk) l52 c52 k52
  have b52 := F52.binds (ps := ["bounds", "height", "which", "shelf", "cell"]) fun _ _ _ _ _ _ us hl => match us, hl with | [_, _, _, _, _], _ => rfl
  have F53 := fun_mk (st := s_law_cap) l53 c53 k53
  have b53 := F53.binds (ps := ["bounds", "height"]) fun _ _ _ _ _ _ us hl => match us, hl with | [_, _], _ => rfl
  have F54 := fun_mk (st := s_law_kinds) l54 c54 k54
  have b54 := F54.binds (ps := ["keeper", "key", "cell"]) fun _ _ _ _ _ _ us hl => match us, hl with | [_, _, _], _ => rfl
  have F55 := fun_mk (st := s_law_shot) l55 c55 k55
  have b55 := F55.binds (ps := ["keeper"]) fun _ _ _ _ _ _ us hl => match us, hl with | [_], _ => rfl
  have F56 := fun_mk (st := slaw) l56 c56 k56
  have b56 := F56.binds (ps := ["script"]) fun _ _ _ _ _ _ us hl => match us, hl with | [_], _ => rfl
  have B : Bi mg := ⟨PySem.W.mg_none_of X G z0, PySem.W.mg_none_of X G z1, PySem.W.mg_none_of X G z2, PySem.W.mg_none_of X G z3, PySem.W.mg_none_of X G z4, PySem.W.mg_none_of X G z5, PySem.W.mg_none_of X G z6, PySem.W.mg_none_of X G z7, PySem.W.mg_none_of X G z8, PySem.W.mg_none_of X G z9, PySem.W.mg_none_of X G z10, PySem.W.mg_none_of X G z11, PySem.W.mg_none_of X G z12, PySem.W.mg_none_of X G z13, PySem.W.mg_none_of X G z14⟩
  have XNoKey : Xc K mg "NoKey" := ⟨C_NoKey, (PySem.W.mg_of X G a_NoKey), xf_NoKey, kf_NoKey, bf_NoKey, tf_NoKey⟩
  have XFull : Xc K mg "Full" := ⟨C_Full, (PySem.W.mg_of X G a_Full), xf_Full, kf_Full, bf_Full, tf_Full⟩
  have XBadBounds : Xc K mg "BadBounds" := ⟨C_BadBounds, (PySem.W.mg_of X G a_BadBounds), xf_BadBounds, kf_BadBounds, bf_BadBounds, tf_BadBounds⟩
  have XBadDisk : Xc K mg "BadDisk" := ⟨C_BadDisk, (PySem.W.mg_of X G a_BadDisk), xf_BadDisk, kf_BadDisk, bf_BadDisk, tf_BadDisk⟩
  have XTShelfError : XT K mg "ShelfError" ["Full", "NoKey"] := ⟨C_ShelfError, (PySem.W.mg_of X G a_ShelfError), fun c h => by
    simp only [List.mem_cons, List.not_mem_nil, or_false] at h
    rcases h with rfl | rfl
    · exact ⟨C_Full, (PySem.W.mg_of X G a_Full), PySem.W.exm_ref bf_ShelfError hd_ShelfError tf_ShelfError sb_Full_ShelfError⟩
    · exact ⟨C_NoKey, (PySem.W.mg_of X G a_NoKey), PySem.W.exm_ref bf_ShelfError hd_ShelfError tf_ShelfError sb_NoKey_ShelfError⟩⟩
  have VE : mg "ValueError" = none := PySem.W.mg_none_of X G z_VE
  have XI_law_kinds : XI K mg ["Full", "NoKey"] ["Full", "NoKey", "BadBounds", "BadDisk", "NoText", "NoRow"] := fun c h => by
    simp only [List.mem_cons, List.not_mem_nil, or_false] at h
    rcases h with rfl | rfl
    · exact ⟨C_Full, (PySem.W.mg_of X G a_Full), ⟨eg_Full, ek_Full, bf_Full, hd_Full, ea_Full, e_n, e_t, em_Full⟩, kit_VE kv_Full, fun t h => by
      simp only [List.mem_cons, List.not_mem_nil, or_false] at h
      rcases h with rfl | rfl | rfl | rfl | rfl | rfl
      · exact ⟨C_Full, (PySem.W.mg_of X G a_Full), (show PySem.W.kitOne K (.ref C_Full) (.ref C_Full) = some (isub "Full" "Full") from by rw [show isub "Full" "Full" = true by decide +kernel]; exact kit_self)⟩
      · exact ⟨C_NoKey, (PySem.W.mg_of X G a_NoKey), (show PySem.W.kitOne K (.ref C_Full) (.ref C_NoKey) = some (isub "Full" "NoKey") from by rw [show isub "Full" "NoKey" = false by decide +kernel]; exact kit_ref kn_Full_NoKey hd_NoKey tf_NoKey sb_Full_NoKey)⟩
      · exact ⟨C_BadBounds, (PySem.W.mg_of X G a_BadBounds), (show PySem.W.kitOne K (.ref C_Full) (.ref C_BadBounds) = some (isub "Full" "BadBounds") from by rw [show isub "Full" "BadBounds" = false by decide +kernel]; exact kit_ref kn_Full_BadBounds hd_BadBounds tf_BadBounds sb_Full_BadBounds)⟩
      · exact ⟨C_BadDisk, (PySem.W.mg_of X G a_BadDisk), (show PySem.W.kitOne K (.ref C_Full) (.ref C_BadDisk) = some (isub "Full" "BadDisk") from by rw [show isub "Full" "BadDisk" = false by decide +kernel]; exact kit_ref kn_Full_BadDisk hd_BadDisk tf_BadDisk sb_Full_BadDisk)⟩
      · exact ⟨C_NoText, (PySem.W.mg_of X G a_NoText), (show PySem.W.kitOne K (.ref C_Full) (.ref C_NoText) = some (isub "Full" "NoText") from by rw [show isub "Full" "NoText" = false by decide +kernel]; exact kit_ref kn_Full_NoText hd_NoText tf_NoText sb_Full_NoText)⟩
      · exact ⟨C_NoRow, (PySem.W.mg_of X G a_NoRow), (show PySem.W.kitOne K (.ref C_Full) (.ref C_NoRow) = some (isub "Full" "NoRow") from by rw [show isub "Full" "NoRow" = false by decide +kernel]; exact kit_ref kn_Full_NoRow hd_NoRow tf_NoRow sb_Full_NoRow)⟩⟩
    · exact ⟨C_NoKey, (PySem.W.mg_of X G a_NoKey), ⟨eg_NoKey, ek_NoKey, bf_NoKey, hd_NoKey, ea_NoKey, e_n, e_t, em_NoKey⟩, kit_VE kv_NoKey, fun t h => by
      simp only [List.mem_cons, List.not_mem_nil, or_false] at h
      rcases h with rfl | rfl | rfl | rfl | rfl | rfl
      · exact ⟨C_Full, (PySem.W.mg_of X G a_Full), (show PySem.W.kitOne K (.ref C_NoKey) (.ref C_Full) = some (isub "NoKey" "Full") from by rw [show isub "NoKey" "Full" = false by decide +kernel]; exact kit_ref kn_NoKey_Full hd_Full tf_Full sb_NoKey_Full)⟩
      · exact ⟨C_NoKey, (PySem.W.mg_of X G a_NoKey), (show PySem.W.kitOne K (.ref C_NoKey) (.ref C_NoKey) = some (isub "NoKey" "NoKey") from by rw [show isub "NoKey" "NoKey" = true by decide +kernel]; exact kit_self)⟩
      · exact ⟨C_BadBounds, (PySem.W.mg_of X G a_BadBounds), (show PySem.W.kitOne K (.ref C_NoKey) (.ref C_BadBounds) = some (isub "NoKey" "BadBounds") from by rw [show isub "NoKey" "BadBounds" = false by decide +kernel]; exact kit_ref kn_NoKey_BadBounds hd_BadBounds tf_BadBounds sb_NoKey_BadBounds)⟩
      · exact ⟨C_BadDisk, (PySem.W.mg_of X G a_BadDisk), (show PySem.W.kitOne K (.ref C_NoKey) (.ref C_BadDisk) = some (isub "NoKey" "BadDisk") from by rw [show isub "NoKey" "BadDisk" = false by decide +kernel]; exact kit_ref kn_NoKey_BadDisk hd_BadDisk tf_BadDisk sb_NoKey_BadDisk)⟩
      · exact ⟨C_NoText, (PySem.W.mg_of X G a_NoText), (show PySem.W.kitOne K (.ref C_NoKey) (.ref C_NoText) = some (isub "NoKey" "NoText") from by rw [show isub "NoKey" "NoText" = false by decide +kernel]; exact kit_ref kn_NoKey_NoText hd_NoText tf_NoText sb_NoKey_NoText)⟩
      · exact ⟨C_NoRow, (PySem.W.mg_of X G a_NoRow), (show PySem.W.kitOne K (.ref C_NoKey) (.ref C_NoRow) = some (isub "NoKey" "NoRow") from by rw [show isub "NoKey" "NoRow" = false by decide +kernel]; exact kit_ref kn_NoKey_NoRow hd_NoRow tf_NoRow sb_NoKey_NoRow)⟩⟩
  have LKeeper : Cls K C_Keeper := ⟨pg_Keeper, hd_Keeper, po_Keeper, sa_Keeper⟩
  have CFKeeper : ClsF K mg "Keeper" ["bounds", "slabs", "many_puts", "many_moves", "many_laid", "first_excess", "first_over"] := ⟨C_Keeper, (PySem.W.mg_of X G a_Keeper), LKeeper, fun f h => by
    simp only [List.mem_cons, List.not_mem_nil, or_false] at h
    rcases h with rfl | rfl | rfl | rfl | rfl | rfl | rfl
    · exact na_Keeper_bounds
    · exact na_Keeper_slabs
    · exact na_Keeper_many_puts
    · exact na_Keeper_many_moves
    · exact na_Keeper_many_laid
    · exact na_Keeper_first_excess
    · exact na_Keeper_first_over⟩
  refine ⟨PySem.W.fnOf "law" "law" (defArgs slaw) (defBody slaw) (defScope slaw) .none kV56 dc56 pm56 an56 cd56 ct56, fun s v => .of_eq rfl, fun base _ _ => ?_⟩
  have Cis_whole := calis_whole (P := l.prog) (w := w) (base := base) B F0 (PySem.W.mg_of X G a0) b0 
  have Ctwofold := caltwofold (P := l.prog) (w := w) (base := base) B F2 (PySem.W.mg_of X G a2) b2 
  have Csecond_of := calsecond_of (P := l.prog) (w := w) (base := base) B F7 (PySem.W.mg_of X G a7) b7 
  have Cis_straight := calis_straight (P := l.prog) (w := w) (base := base) B F8 (PySem.W.mg_of X G a8) b8 
  have Cheld := calheld (P := l.prog) (w := w) (base := base) B F12 (PySem.W.mg_of X G a12) b12 
  have Ctargets := caltargets (P := l.prog) (w := w) (base := base) B F16 (PySem.W.mg_of X G a16) b16 
  have Cmoves_of := calmoves_of (P := l.prog) (w := w) (base := base) B F17 (PySem.W.mg_of X G a17) b17 
  have Cwrites_of := calwrites_of (P := l.prog) (w := w) (base := base) B F18 (PySem.W.mg_of X G a18) b18 
  have Cplace_of := calplace_of (P := l.prog) (w := w) (base := base) B F19 (PySem.W.mg_of X G a19) b19 
  have Cseat_of := calseat_of (P := l.prog) (w := w) (base := base) B F20 (PySem.W.mg_of X G a20) b20 
  have Cwritten := calwritten (P := l.prog) (w := w) (base := base) B F30 (PySem.W.mg_of X G a30) b30 
  have RKeeper_counts := calKeeper_counts (P := l.prog) (w := w) (base := base) B F44  CFKeeper
  have CKeeper_counts := calm_mk (PySem.W.mg_of X G a_Keeper) LKeeper ⟨a44, i44, k44⟩ RKeeper_counts b44
  have C_law_cell := cal_law_cell (P := l.prog) (w := w) (base := base) B F45 (PySem.W.mg_of X G a45) b45 
  have C_law_spread := cal_law_spread (P := l.prog) (w := w) (base := base) B F46 (PySem.W.mg_of X G a46) b46 
  have C_law_mixed := cal_law_mixed (P := l.prog) (w := w) (base := base) B F47 (PySem.W.mg_of X G a47) b47 
  have C_law_two := cal_law_two (P := l.prog) (w := w) (base := base) B F49 (PySem.W.mg_of X G a49) b49 
  have Cis_bounds := calis_bounds (P := l.prog) (w := w) (base := base) B F1 (PySem.W.mg_of X G a1) b1 Cis_whole
  have Cplaces_of := calplaces_of (P := l.prog) (w := w) (base := base) B F3 (PySem.W.mg_of X G a3) b3 Ctwofold
  have Ccap_of := calcap_of (P := l.prog) (w := w) (base := base) B F5 (PySem.W.mg_of X G a5) b5 Ctwofold
  have Ccalm_of := calcalm_of (P := l.prog) (w := w) (base := base) B F6 (PySem.W.mg_of X G a6) b6 Ctwofold
  have Cmended := calmended (P := l.prog) (w := w) (base := base) B F9 (PySem.W.mg_of X G a9) b9 Csecond_of
  have Ctake_writes := caltake_writes (P := l.prog) (w := w) (base := base) B F24 (PySem.W.mg_of X G a24) b24 Cplace_of XNoKey
  have Cis_pair := calis_pair (P := l.prog) (w := w) (base := base) B F25 (PySem.W.mg_of X G a25) b25 Cis_whole
  have RKeeper_disk := calKeeper_disk (P := l.prog) (w := w) (base := base) B F43 Cwritten CFKeeper
  have CKeeper_disk := calm_mk (PySem.W.mg_of X G a_Keeper) LKeeper ⟨a43, i43, k43⟩ RKeeper_disk b43
  have C_law_bounds := cal_law_bounds (P := l.prog) (w := w) (base := base) B F48 (PySem.W.mg_of X G a48) b48 C_law_spread
  have C_law_filled := cal_law_filled (P := l.prog) (w := w) (base := base) B F50 (PySem.W.mg_of X G a50) b50 C_law_two C_law_mixed
  have C_law_area := cal_law_area (P := l.prog) (w := w) (base := base) B F51 (PySem.W.mg_of X G a51) b51 C_law_mixed
  have C_law_cap := cal_law_cap (P := l.prog) (w := w) (base := base) B F53 (PySem.W.mg_of X G a53) b53 C_law_two
  have Cstretch_of := calstretch_of (P := l.prog) (w := w) (base := base) B F4 (PySem.W.mg_of X G a4) b4 Cplaces_of
  have Cis_sound := calis_sound (P := l.prog) (w := w) (base := base) B F10 (PySem.W.mg_of X G a10) b10 Cmended Cis_straight
  have Crows_of := calrows_of (P := l.prog) (w := w) (base := base) B F11 (PySem.W.mg_of X G a11) b11 Cmended
  have Cexcess_at := calexcess_at (P := l.prog) (w := w) (base := base) B F13 (PySem.W.mg_of X G a13) b13 Cplaces_of Ccalm_of Cheld
  have Cover_of := calover_of (P := l.prog) (w := w) (base := base) B F15 (PySem.W.mg_of X G a15) b15 Ccap_of Cheld
  have Cis_area := calis_area (P := l.prog) (w := w) (base := base) B F26 (PySem.W.mg_of X G a26) b26 Cis_pair
  have Cis_sign := calis_sign (P := l.prog) (w := w) (base := base) B F27 (PySem.W.mg_of X G a27) b27 Cis_pair
  have Cshelf_on := calshelf_on (P := l.prog) (w := w) (base := base) B F28 (PySem.W.mg_of X G a28) b28 Cplaces_of
  have C_law_disk := cal_law_disk (P := l.prog) (w := w) (base := base) B F52 (PySem.W.mg_of X G a52) b52 C_law_two C_law_area
  have Cexcess_of := calexcess_of (P := l.prog) (w := w) (base := base) B F14 (PySem.W.mg_of X G a14) b14 Cexcess_at
  have Cheight_for := calheight_for (P := l.prog) (w := w) (base := base) B F21 (PySem.W.mg_of X G a21) b21 Cseat_of Cstretch_of Cheld Ccap_of
  have Cevened := calevened (P := l.prog) (w := w) (base := base) B F22 (PySem.W.mg_of X G a22) b22 Cseat_of Cstretch_of Ctargets Cmoves_of Cwrites_of
  have Cis_disk := calis_disk (P := l.prog) (w := w) (base := base) B F29 (PySem.W.mg_of X G a29) b29 Cis_sign Cplaces_of Cis_area Cshelf_on Cis_sound Crows_of Ccap_of
  have Cgrow_writes := calgrow_writes (P := l.prog) (w := w) (base := base) B F31 (PySem.W.mg_of X G a31) b31 Cshelf_on Crows_of Cplaces_of Ctargets
  have Cdisk_take := caldisk_take (P := l.prog) (w := w) (base := base) B F33 (PySem.W.mg_of X G a33) b33 Cshelf_on Ctake_writes
  have RKeeper_shelf := calKeeper_shelf (P := l.prog) (w := w) (base := base) B F35 Cshelf_on CFKeeper
  have CKeeper_shelf := calm_mk (PySem.W.mg_of X G a_Keeper) LKeeper ⟨a35, i35, k35⟩ RKeeper_shelf b35
  have Cput_writes := calput_writes (P := l.prog) (w := w) (base := base) B F23 (PySem.W.mg_of X G a23) b23 Cplace_of Cheld Ccap_of Cheight_for Cevened XFull
  have RKeeper_excess := calKeeper_excess (P := l.prog) (w := w) (base := base) B F37 CKeeper_shelf Cexcess_of CFKeeper
  have CKeeper_excess := calm_mk (PySem.W.mg_of X G a_Keeper) LKeeper ⟨a37, i37, k37⟩ RKeeper_excess b37
  have RKeeper_over := calKeeper_over (P := l.prog) (w := w) (base := base) B F38 CKeeper_shelf Cover_of CFKeeper
  have CKeeper_over := calm_mk (PySem.W.mg_of X G a_Keeper) LKeeper ⟨a38, i38, k38⟩ RKeeper_over b38
  have RKeeper_rows := calKeeper_rows (P := l.prog) (w := w) (base := base) B F42 CKeeper_shelf Crows_of
  have CKeeper_rows := calm_mk (PySem.W.mg_of X G a_Keeper) LKeeper ⟨a42, i42, k42⟩ RKeeper_rows b42
  have Cdisk_put := caldisk_put (P := l.prog) (w := w) (base := base) B F32 (PySem.W.mg_of X G a32) b32 Cshelf_on Cplace_of Cheld Ccap_of Cgrow_writes Cwritten Cput_writes
  have RKeeper_come_up := calKeeper_come_up (P := l.prog) (w := w) (base := base) B F36 CKeeper_shelf Csecond_of CKeeper_excess CKeeper_over CFKeeper
  have CKeeper_come_up := calm_mk (PySem.W.mg_of X G a_Keeper) LKeeper ⟨a36, i36, k36⟩ RKeeper_come_up b36
  have C_law_shot := cal_law_shot (P := l.prog) (w := w) (base := base) B F55 (PySem.W.mg_of X G a55) b55 CKeeper_disk CKeeper_rows CKeeper_counts CKeeper_excess CKeeper_over
  have RKeeper_init := calKeeper_init (P := l.prog) (w := w) (base := base) B F34 Cis_bounds Cis_disk Cwritten CKeeper_come_up CFKeeper XBadBounds XBadDisk
  have CKeeper_init : CalI l.prog w K mg base "Keeper" 7 ["self", "bounds", "disk"] sp_Keeper_init := ⟨C_Keeper, _, _, (PySem.W.mg_of X G a_Keeper), ⟨mk_Keeper, a34, i34, kc_Keeper⟩, RKeeper_init, b34⟩
  have RKeeper_write_all := calKeeper_write_all (P := l.prog) (w := w) (base := base) B F39 Cwritten CKeeper_come_up CFKeeper
  have CKeeper_write_all := calm_mk (PySem.W.mg_of X G a_Keeper) LKeeper ⟨a39, i39, k39⟩ RKeeper_write_all b39
  have RKeeper_put := calKeeper_put (P := l.prog) (w := w) (base := base) B F40 Cdisk_put CKeeper_shelf Cplace_of CKeeper_write_all Crows_of CFKeeper
  have CKeeper_put := calm_mk (PySem.W.mg_of X G a_Keeper) LKeeper ⟨a40, i40, k40⟩ RKeeper_put b40
  have CKeeper_putD := calm_mkD (PySem.W.mg_of X G a_Keeper) LKeeper ⟨a40, i40, k40⟩ RKeeper_put bD40
  have RKeeper_take := calKeeper_take (P := l.prog) (w := w) (base := base) B F41 Cdisk_take CKeeper_write_all CFKeeper
  have CKeeper_take := calm_mk (PySem.W.mg_of X G a_Keeper) LKeeper ⟨a41, i41, k41⟩ RKeeper_take b41
  have CKeeper_takeD := calm_mkD (PySem.W.mg_of X G a_Keeper) LKeeper ⟨a41, i41, k41⟩ RKeeper_take bD41
  have C_law_kinds := cal_law_kinds (P := l.prog) (w := w) (base := base) B F54 (PySem.W.mg_of X G a54) b54 CKeeper_putD CKeeper_put CKeeper_takeD CKeeper_take XTShelfError VE XI_law_kinds
  exact (fn_law (P := l.prog) (w := w) (base := base) B F56 C_law_cell C_law_bounds C_law_spread C_law_cap C_law_filled C_law_disk CKeeper_init C_law_shot C_law_kinds).imp fun vs H Q E h => h mg
end GS
open PySem PySem.W PyProof.Rows
set_option maxHeartbeats 0 in
theorem PySem.Challenge.cw_gapshelf_k29_deeds_refused_holds : PySem.Challenge.rw_gapshelf_k29_deeds_refused.Holds := by
  w_on; o_law; k_head; (case hw => w_witness2)
  k_fill
  refine L2.walk_of (l := PySem.Challenge.rw_gapshelf_k29_deeds_refused) (n := 63) (k := 10) (x := "script") (CX := fun w => L2.CX (PySem.Challenge.rw_gapshelf_k29_deeds_refused).prog w) (sp := fun w => GS.spAll _) rfl (by decide) rfl ⟨rfl, by decide, by decide⟩ (fun w h Y => PySem.W.kIn_of Y) ?F (fun _ _ a ns hl ho hS mg => GS.law_start hl ho hS) (fun _ H s e s' h => GS.law_noCX H s e s' h)
  case F =>
    intro w mg fa h KX G hmg
    refine' GS.all_mk KX G hmg (a_NoKey := ?a_NoKey) (a_Full := ?a_Full) (a_BadBounds := ?a_BadBounds) (a_BadDisk := ?a_BadDisk) (a_ShelfError := ?a_ShelfError) (a_NoText := ?a_NoText) (a_NoRow := ?a_NoRow) (a_Keeper := ?a_Keeper) (a0 := ?a0) (l0 := ?l0) (c0 := ?c0) (k0 := ?k0) (a1 := ?a1) (l1 := ?l1) (c1 := ?c1) (k1 := ?k1) (a2 := ?a2) (l2 := ?l2) (c2 := ?c2) (k2 := ?k2) (a3 := ?a3) (l3 := ?l3) (c3 := ?c3) (k3 := ?k3) (a4 := ?a4) (l4 := ?l4) (c4 := ?c4) (k4 := ?k4) (a5 := ?a5) (l5 := ?l5) (c5 := ?c5) (k5 := ?k5) (a6 := ?a6) (l6 := ?l6) (c6 := ?c6) (k6 := ?k6) (a7 := ?a7) (l7 := ?l7) (c7 := ?c7) (k7 := ?k7) (a8 := ?a8) (l8 := ?l8) (c8 := ?c8) (k8 := ?k8) (a9 := ?a9) (l9 := ?l9) (c9 := ?c9) (k9 := ?k9) (a10 := ?a10) (l10 := ?l10) (c10 := ?c10) (k10 := ?k10) (a11 := ?a11) (l11 := ?l11) (c11 := ?c11) (k11 := ?k11) (a12 := ?a12) (l12 := ?l12) (c12 := ?c12) (k12 := ?k12) (a13 := ?a13) (l13 := ?l13) (c13 := ?c13) (k13 := ?k13) (a14 := ?a14) (l14 := ?l14) (c14 := ?c14) (k14 := ?k14) (a15 := ?a15) (l15 := ?l15) (c15 := ?c15) (k15 := ?k15) (a16 := ?a16) (l16 := ?l16) (c16 := ?c16) (k16 := ?k16) (a17 := ?a17) (l17 := ?l17) (c17 := ?c17) (k17 := ?k17) (a18 := ?a18) (l18 := ?l18) (c18 := ?c18) (k18 := ?k18) (a19 := ?a19) (l19 := ?l19) (c19 := ?c19) (k19 := ?k19) (a20 := ?a20) (l20 := ?l20) (c20 := ?c20) (k20 := ?k20) (a21 := ?a21) (l21 := ?l21) (c21 := ?c21) (k21 := ?k21) (a22 := ?a22) (l22 := ?l22) (c22 := ?c22) (k22 := ?k22) (a23 := ?a23) (l23 := ?l23) (c23 := ?c23) (k23 := ?k23) (a24 := ?a24) (l24 := ?l24) (c24 := ?c24) (k24 := ?k24) (a25 := ?a25) (l25 := ?l25) (c25 := ?c25) (k25 := ?k25) (a26 := ?a26) (l26 := ?l26) (c26 := ?c26) (k26 := ?k26) (a27 := ?a27) (l27 := ?l27) (c27 := ?c27) (k27 := ?k27) (a28 := ?a28) (l28 := ?l28) (c28 := ?c28) (k28 := ?k28) (a29 := ?a29) (l29 := ?l29) (c29 := ?c29) (k29 := ?k29) (a30 := ?a30) (l30 := ?l30) (c30 := ?c30) (k30 := ?k30) (a31 := ?a31) (l31 := ?l31) (c31 := ?c31) (k31 := ?k31) (a32 := ?a32) (l32 := ?l32) (c32 := ?c32) (k32 := ?k32) (a33 := ?a33) (l33 := ?l33) (c33 := ?c33) (k33 := ?k33) (a34 := ?a34) (i34 := ?i34) (l34 := ?l34) (c34 := ?c34) (k34 := ?k34) (a35 := ?a35) (i35 := ?i35) (l35 := ?l35) (c35 := ?c35) (k35 := ?k35) (a36 := ?a36) (i36 := ?i36) (l36 := ?l36) (c36 := ?c36) (k36 := ?k36) (a37 := ?a37) (i37 := ?i37) (l37 := ?l37) (c37 := ?c37) (k37 := ?k37) (a38 := ?a38) (i38 := ?i38) (l38 := ?l38) (c38 := ?c38) (k38 := ?k38) (a39 := ?a39) (i39 := ?i39) (l39 := ?l39) (c39 := ?c39) (k39 := ?k39) (a40 := ?a40) (i40 := ?i40) (l40 := ?l40) (c40 := ?c40) (k40 := ?k40) (t40 := ?t40) (a41 := ?a41) (i41 := ?i41) (l41 := ?l41) (c41 := ?c41) (k41 := ?k41) (t41 := ?t41) (a42 := ?a42) (i42 := ?i42) (l42 := ?l42) (c42 := ?c42) (k42 := ?k42) (a43 := ?a43) (i43 := ?i43) (l43 := ?l43) (c43 := ?c43) (k43 := ?k43) (a44 := ?a44) (i44 := ?i44) (l44 := ?l44) (c44 := ?c44) (k44 := ?k44) (a45 := ?a45) (l45 := ?l45) (c45 := ?c45) (k45 := ?k45) (a46 := ?a46) (l46 := ?l46) (c46 := ?c46) (k46 := ?k46) (a47 := ?a47) (l47 := ?l47) (c47 := ?c47) (k47 := ?k47) (a48 := ?a48) (l48 := ?l48) (c48 := ?c48) (k48 := ?k48) (a49 := ?a49) (l49 := ?l49) (c49 := ?c49) (k49 := ?k49) (a50 := ?a50) (l50 := ?l50) (c50 := ?c50) (k50 := ?k50) (a51 := ?a51) (l51 := ?l51) (c51 := ?c51) (k51 := ?k51) (a52 := ?a52) (l52 := ?l52) (c52 := ?c52) (k52 := ?k52) (a53 := ?a53) (l53 := ?l53) (c53 := ?c53) (k53 := ?k53) (a54 := ?a54) (l54 := ?l54) (c54 := ?c54) (k54 := ?k54) (a55 := ?a55) (l55 := ?l55) (c55 := ?c55) (k55 := ?k55) (a56 := ?a56) (l56 := ?l56) (c56 := ?c56) (k56 := ?k56) (z0 := ?z0) (z1 := ?z1) (z2 := ?z2) (z3 := ?z3) (z4 := ?z4) (z5 := ?z5) (z6 := ?z6) (z7 := ?z7) (z8 := ?z8) (z9 := ?z9) (z10 := ?z10) (z11 := ?z11) (z12 := ?z12) (z13 := ?z13) (z14 := ?z14) (xf_NoKey := ?xf_NoKey) (kf_NoKey := ?kf_NoKey) (bf_NoKey := ?bf_NoKey) (tf_NoKey := ?tf_NoKey) (xf_Full := ?xf_Full) (kf_Full := ?kf_Full) (bf_Full := ?bf_Full) (tf_Full := ?tf_Full) (xf_BadBounds := ?xf_BadBounds) (kf_BadBounds := ?kf_BadBounds) (bf_BadBounds := ?bf_BadBounds) (tf_BadBounds := ?tf_BadBounds) (xf_BadDisk := ?xf_BadDisk) (kf_BadDisk := ?kf_BadDisk) (bf_BadDisk := ?bf_BadDisk) (tf_BadDisk := ?tf_BadDisk) (bf_ShelfError := ?bf_ShelfError) (hd_ShelfError := ?hd_ShelfError) (tf_ShelfError := ?tf_ShelfError) (sb_Full_ShelfError := ?sb_Full_ShelfError) (sb_NoKey_ShelfError := ?sb_NoKey_ShelfError) (e_n := ?e_n) (e_t := ?e_t) (eg_Full := ?eg_Full) (ek_Full := ?ek_Full) (hd_Full := ?hd_Full) (ea_Full := ?ea_Full) (em_Full := ?em_Full) (kv_Full := ?kv_Full) (kn_Full_NoKey := ?kn_Full_NoKey) (hd_NoKey := ?hd_NoKey) (sb_Full_NoKey := ?sb_Full_NoKey) (kn_Full_BadBounds := ?kn_Full_BadBounds) (hd_BadBounds := ?hd_BadBounds) (sb_Full_BadBounds := ?sb_Full_BadBounds) (kn_Full_BadDisk := ?kn_Full_BadDisk) (hd_BadDisk := ?hd_BadDisk) (sb_Full_BadDisk := ?sb_Full_BadDisk) (kn_Full_NoText := ?kn_Full_NoText) (hd_NoText := ?hd_NoText) (tf_NoText := ?tf_NoText) (sb_Full_NoText := ?sb_Full_NoText) (kn_Full_NoRow := ?kn_Full_NoRow) (hd_NoRow := ?hd_NoRow) (tf_NoRow := ?tf_NoRow) (sb_Full_NoRow := ?sb_Full_NoRow) (eg_NoKey := ?eg_NoKey) (ek_NoKey := ?ek_NoKey) (ea_NoKey := ?ea_NoKey) (em_NoKey := ?em_NoKey) (kv_NoKey := ?kv_NoKey) (kn_NoKey_Full := ?kn_NoKey_Full) (sb_NoKey_Full := ?sb_NoKey_Full) (kn_NoKey_BadBounds := ?kn_NoKey_BadBounds) (sb_NoKey_BadBounds := ?sb_NoKey_BadBounds) (kn_NoKey_BadDisk := ?kn_NoKey_BadDisk) (sb_NoKey_BadDisk := ?sb_NoKey_BadDisk) (kn_NoKey_NoText := ?kn_NoKey_NoText) (sb_NoKey_NoText := ?sb_NoKey_NoText) (kn_NoKey_NoRow := ?kn_NoKey_NoRow) (sb_NoKey_NoRow := ?sb_NoKey_NoRow) (z_VE := ?z_VE) (pg_Keeper := ?pg_Keeper) (hd_Keeper := ?hd_Keeper) (po_Keeper := ?po_Keeper) (sa_Keeper := ?sa_Keeper) (mk_Keeper := ?mk_Keeper) (kc_Keeper := ?kc_Keeper) (na_Keeper_bounds := ?na_Keeper_bounds) (na_Keeper_slabs := ?na_Keeper_slabs) (na_Keeper_many_puts := ?na_Keeper_many_puts) (na_Keeper_many_moves := ?na_Keeper_many_moves) (na_Keeper_many_laid := ?na_Keeper_many_laid) (na_Keeper_first_excess := ?na_Keeper_first_excess) (na_Keeper_first_over := ?na_Keeper_first_over)
    (case a_NoKey => k_is)
    (case a_Full => k_is)
    (case a_BadBounds => k_is)
    (case a_BadDisk => k_is)
    (case a_ShelfError => k_is)
    (case a_NoText => k_is)
    (case a_NoRow => k_is)
    (case a_Keeper => k_is)
    (case a0 => k_is)
    (case l0 => k_is)
    (case c0 => k_is)
    (case k0 => k_is)
    (case a1 => k_is)
    (case l1 => k_is)
    (case c1 => k_is)
    (case k1 => k_is)
    (case a2 => k_is)
    (case l2 => k_is)
    (case c2 => k_is)
    (case k2 => k_is)
    (case a3 => k_is)
    (case l3 => k_is)
    (case c3 => k_is)
    (case k3 => k_is)
    (case a4 => k_is)
    (case l4 => k_is)
    (case c4 => k_is)
    (case k4 => k_is)
    (case a5 => k_is)
    (case l5 => k_is)
    (case c5 => k_is)
    (case k5 => k_is)
    (case a6 => k_is)
    (case l6 => k_is)
    (case c6 => k_is)
    (case k6 => k_is)
    (case a7 => k_is)
    (case l7 => k_is)
    (case c7 => k_is)
    (case k7 => k_is)
    (case a8 => k_is)
    (case l8 => k_is)
    (case c8 => k_is)
    (case k8 => k_is)
    (case a9 => k_is)
    (case l9 => k_is)
    (case c9 => k_is)
    (case k9 => k_is)
    (case a10 => k_is)
    (case l10 => k_is)
    (case c10 => k_is)
    (case k10 => k_is)
    (case a11 => k_is)
    (case l11 => k_is)
    (case c11 => k_is)
    (case k11 => k_is)
    (case a12 => k_is)
    (case l12 => k_is)
    (case c12 => k_is)
    (case k12 => k_is)
    (case a13 => k_is)
    (case l13 => k_is)
    (case c13 => k_is)
    (case k13 => k_is)
    (case a14 => k_is)
    (case l14 => k_is)
    (case c14 => k_is)
    (case k14 => k_is)
    (case a15 => k_is)
    (case l15 => k_is)
    (case c15 => k_is)
    (case k15 => k_is)
    (case a16 => k_is)
    (case l16 => k_is)
    (case c16 => k_is)
    (case k16 => k_is)
    (case a17 => k_is)
    (case l17 => k_is)
    (case c17 => k_is)
    (case k17 => k_is)
    (case a18 => k_is)
    (case l18 => k_is)
    (case c18 => k_is)
    (case k18 => k_is)
    (case a19 => k_is)
    (case l19 => k_is)
    (case c19 => k_is)
    (case k19 => k_is)
    (case a20 => k_is)
    (case l20 => k_is)
    (case c20 => k_is)
    (case k20 => k_is)
    (case a21 => k_is)
    (case l21 => k_is)
    (case c21 => k_is)
    (case k21 => k_is)
    (case a22 => k_is)
    (case l22 => k_is)
    (case c22 => k_is)
    (case k22 => k_is)
    (case a23 => k_is)
    (case l23 => k_is)
    (case c23 => k_is)
    (case k23 => k_is)
    (case a24 => k_is)
    (case l24 => k_is)
    (case c24 => k_is)
    (case k24 => k_is)
    (case a25 => k_is)
    (case l25 => k_is)
    (case c25 => k_is)
    (case k25 => k_is)
    (case a26 => k_is)
    (case l26 => k_is)
    (case c26 => k_is)
    (case k26 => k_is)
    (case a27 => k_is)
    (case l27 => k_is)
    (case c27 => k_is)
    (case k27 => k_is)
    (case a28 => k_is)
    (case l28 => k_is)
    (case c28 => k_is)
    (case k28 => k_is)
    (case a29 => k_is)
    (case l29 => k_is)
    (case c29 => k_is)
    (case k29 => k_is)
    (case a30 => k_is)
    (case l30 => k_is)
    (case c30 => k_is)
    (case k30 => k_is)
    (case a31 => k_is)
    (case l31 => k_is)
    (case c31 => k_is)
    (case k31 => k_is)
    (case a32 => k_is)
    (case l32 => k_is)
    (case c32 => k_is)
    (case k32 => k_is)
    (case a33 => k_is)
    (case l33 => k_is)
    (case c33 => k_is)
    (case k33 => k_is)
    (case a34 => k_is)
    (case i34 => k_is)
    (case l34 => k_is)
    (case c34 => k_is)
    (case k34 => k_is)
    (case a35 => k_is)
    (case i35 => k_is)
    (case l35 => k_is)
    (case c35 => k_is)
    (case k35 => k_is)
    (case a36 => k_is)
    (case i36 => k_is)
    (case l36 => k_is)
    (case c36 => k_is)
    (case k36 => k_is)
    (case a37 => k_is)
    (case i37 => k_is)
    (case l37 => k_is)
    (case c37 => k_is)
    (case k37 => k_is)
    (case a38 => k_is)
    (case i38 => k_is)
    (case l38 => k_is)
    (case c38 => k_is)
    (case k38 => k_is)
    (case a39 => k_is)
    (case i39 => k_is)
    (case l39 => k_is)
    (case c39 => k_is)
    (case k39 => k_is)
    (case a40 => k_is)
    (case i40 => k_is)
    (case l40 => k_is)
    (case c40 => k_is)
    (case k40 => k_is)
    (case t40 => k_is)
    (case a41 => k_is)
    (case i41 => k_is)
    (case l41 => k_is)
    (case c41 => k_is)
    (case k41 => k_is)
    (case t41 => k_is)
    (case a42 => k_is)
    (case i42 => k_is)
    (case l42 => k_is)
    (case c42 => k_is)
    (case k42 => k_is)
    (case a43 => k_is)
    (case i43 => k_is)
    (case l43 => k_is)
    (case c43 => k_is)
    (case k43 => k_is)
    (case a44 => k_is)
    (case i44 => k_is)
    (case l44 => k_is)
    (case c44 => k_is)
    (case k44 => k_is)
    (case a45 => k_is)
    (case l45 => k_is)
    (case c45 => k_is)
    (case k45 => k_is)
    (case a46 => k_is)
    (case l46 => k_is)
    (case c46 => k_is)
    (case k46 => k_is)
    (case a47 => k_is)
    (case l47 => k_is)
    (case c47 => k_is)
    (case k47 => k_is)
    (case a48 => k_is)
    (case l48 => k_is)
    (case c48 => k_is)
    (case k48 => k_is)
    (case a49 => k_is)
    (case l49 => k_is)
    (case c49 => k_is)
    (case k49 => k_is)
    (case a50 => k_is)
    (case l50 => k_is)
    (case c50 => k_is)
    (case k50 => k_is)
    (case a51 => k_is)
    (case l51 => k_is)
    (case c51 => k_is)
    (case k51 => k_is)
    (case a52 => k_is)
    (case l52 => k_is)
    (case c52 => k_is)
    (case k52 => k_is)
    (case a53 => k_is)
    (case l53 => k_is)
    (case c53 => k_is)
    (case k53 => k_is)
    (case a54 => k_is)
    (case l54 => k_is)
    (case c54 => k_is)
    (case k54 => k_is)
    (case a55 => k_is)
    (case l55 => k_is)
    (case c55 => k_is)
    (case k55 => k_is)
    (case a56 => k_is)
    (case l56 => k_is)
    (case c56 => k_is)
    (case k56 => k_is)
    (case z0 => k_is)
    (case z1 => k_is)
    (case z2 => k_is)
    (case z3 => k_is)
    (case z4 => k_is)
    (case z5 => k_is)
    (case z6 => k_is)
    (case z7 => k_is)
    (case z8 => k_is)
    (case z9 => k_is)
    (case z10 => k_is)
    (case z11 => k_is)
    (case z12 => k_is)
    (case z13 => k_is)
    (case z14 => k_is)
    (case xf_NoKey => k_exc)
    (case kf_NoKey => k_is)
    (case bf_NoKey => k_is)
    (case tf_NoKey => k_is)
    (case xf_Full => k_exc)
    (case kf_Full => k_is)
    (case bf_Full => k_is)
    (case tf_Full => k_is)
    (case xf_BadBounds => k_exc)
    (case kf_BadBounds => k_is)
    (case bf_BadBounds => k_is)
    (case tf_BadBounds => k_is)
    (case xf_BadDisk => k_exc)
    (case kf_BadDisk => k_is)
    (case bf_BadDisk => k_is)
    (case tf_BadDisk => k_is)
    (case bf_ShelfError => k_is)
    (case hd_ShelfError => k_is)
    (case tf_ShelfError => k_is)
    (case sb_Full_ShelfError => k_is)
    (case sb_NoKey_ShelfError => k_is)
    (case e_n => k_is)
    (case e_t => k_is)
    (case eg_Full => k_is)
    (case ek_Full => k_is)
    (case hd_Full => k_is)
    (case ea_Full => k_is)
    (case em_Full => k_is)
    (case kv_Full => k_is)
    (case kn_Full_NoKey => first | rfl | decide)
    (case hd_NoKey => k_is)
    (case sb_Full_NoKey => k_is)
    (case kn_Full_BadBounds => first | rfl | decide)
    (case hd_BadBounds => k_is)
    (case sb_Full_BadBounds => k_is)
    (case kn_Full_BadDisk => first | rfl | decide)
    (case hd_BadDisk => k_is)
    (case sb_Full_BadDisk => k_is)
    (case kn_Full_NoText => first | rfl | decide)
    (case hd_NoText => k_is)
    (case tf_NoText => k_is)
    (case sb_Full_NoText => k_is)
    (case kn_Full_NoRow => first | rfl | decide)
    (case hd_NoRow => k_is)
    (case tf_NoRow => k_is)
    (case sb_Full_NoRow => k_is)
    (case eg_NoKey => k_is)
    (case ek_NoKey => k_is)
    (case ea_NoKey => k_is)
    (case em_NoKey => k_is)
    (case kv_NoKey => k_is)
    (case kn_NoKey_Full => first | rfl | decide)
    (case sb_NoKey_Full => k_is)
    (case kn_NoKey_BadBounds => first | rfl | decide)
    (case sb_NoKey_BadBounds => k_is)
    (case kn_NoKey_BadDisk => first | rfl | decide)
    (case sb_NoKey_BadDisk => k_is)
    (case kn_NoKey_NoText => first | rfl | decide)
    (case sb_NoKey_NoText => k_is)
    (case kn_NoKey_NoRow => first | rfl | decide)
    (case sb_NoKey_NoRow => k_is)
    (case z_VE => k_is)
    (case pg_Keeper => k_is)
    (case hd_Keeper => k_is)
    (case po_Keeper => k_is)
    (case sa_Keeper => k_is)
    (case mk_Keeper => k_is)
    (case kc_Keeper => k_is)
    (case na_Keeper_bounds => k_is)
    (case na_Keeper_slabs => k_is)
    (case na_Keeper_many_puts => k_is)
    (case na_Keeper_many_moves => k_is)
    (case na_Keeper_many_laid => k_is)
    (case na_Keeper_first_excess => k_is)
    (case na_Keeper_first_over => k_is)
