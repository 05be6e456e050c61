import PyProof.Rows.All
import Wide.All
import OpenK.AllK
import Wide.FinOn
import HandS.ForMost
import HandS.ForExc
import HandS.Wide
import HandS.IsInst
import HandS.CallSlots
import HandS.Style
import HandS.Conv
import HandS.Deep
import KE.KDictZip
import HandS.More
import HandS.SortInts
import HandS.SortRule
import HandS.ExcIs
import HandS.TryOnly
import HandS.Text
import HandS.FStr
import KE.GoesComp
import KE.KAsSuite
import PySem.Challenge.RW_gapshelf_k38_odd_disk_texts
set_option Elab.async false
set_option linter.all false
set_option maxRecDepth 100000
set_option maxHeartbeats 4000000
set_option autoImplicit false
/-! A store of lists, dicts and instances; readings over it (W); how they stand over the hand layer's heaps. -/
namespace GS
open PySem PySem.Spec PyProof.Rows L2

/-- a value: tuples inline, lists, dicts, instances by their place in the store; rol: a list that is only read -/
inductive D where
  | non | bl (b : Bool) | int (i : Int) | str (x : Str) | tup (ds : List D) | rol (ds : List D) | ref (n : Nat) | adr (a : Addr)
inductive Cell where
  | lst (ds : List D)
  | dct (kvs : List (Key × D))
  | ins (c : Str) (fs : List (Str × D))
abbrev Store := List Cell
abbrev DEnv := List (Option D)
abbrev PQ := D → Store → Prop
abbrev PX := Str → DEnv → Store → Prop
abbrev W := DEnv → Store → PQ → PX → Prop
structure DEnds where
  nx : DEnv → Store → Prop
  rt : PQ
abbrev WS := DEnv → Store → DEnds → PX → Prop

/-! ### values -/
def RolAt (K : PySem.W.Frag) (H : Hp) (a : Addr) (vs : List V) : Prop := (∃ o, H a = some (.frz o (.lst vs))) ∨ (SqL K H a vs ∧ ∀ H', SqL K H' a vs)
mutual
def RD (K : PySem.W.Frag) (φ : List Addr) (H : Hp) : D → V → Prop
  | .non, v => v = .non
  | .bl b, v => v = .bl b
  | .int i, v => v = .int i
  | .str x, v => v = .str x
  | .tup ds, v => ∃ a vs, v = .ref a ∧ H a = some (.tup vs) ∧ RDs K φ H ds vs
  | .rol ds, v => ∃ a vs, v = .ref a ∧ RolAt K H a vs ∧ RDs K φ H ds vs
  | .ref n, v => ∃ a, φ[n]? = some a ∧ v = .ref a
  | .adr a, v => v = .ref a
def RDs (K : PySem.W.Frag) (φ : List Addr) (H : Hp) : List D → List V → Prop
  | [], vs => vs = []
  | d :: ds, vs => ∃ v r, vs = v :: r ∧ RD K φ H d v ∧ RDs K φ H ds r
end
theorem RDs.length {K : PySem.W.Frag} {φ : List Addr} {H : Hp} : ∀ {ds : List D} {vs : List V}, RDs K φ H ds vs → ds.length = vs.length
  | [], vs, h => by have : vs = [] := by simpa [RDs] using h
                    subst this; rfl
  | d :: ds, vs, h => by
    obtain ⟨v, r, rfl, _, h⟩ := (by simpa only [RDs] using h : ∃ v r, vs = v :: r ∧ RD K φ H d v ∧ RDs K φ H ds r)
    simp [RDs.length h]
theorem RDs.cons {K : PySem.W.Frag} {φ : List Addr} {H : Hp} {d : D} {ds : List D} {v : V} {vs : List V} (h : RD K φ H d v) (t : RDs K φ H ds vs) : RDs K φ H (d :: ds) (v :: vs) := by
  simp only [RDs]; exact ⟨v, vs, rfl, h, t⟩
theorem RDs.inv {K : PySem.W.Frag} {φ : List Addr} {H : Hp} {d : D} {ds : List D} {vs : List V} (h : RDs K φ H (d :: ds) vs) : ∃ v r, vs = v :: r ∧ RD K φ H d v ∧ RDs K φ H ds r := by
  simpa only [RDs] using h
theorem RDs.nil {K : PySem.W.Frag} {φ : List Addr} {H : Hp} : RDs K φ H [] [] := by simp only [RDs]
theorem RDs.get {K : PySem.W.Frag} {φ : List Addr} {H : Hp} : ∀ {ds : List D} {vs : List V} {i : Nat} {d : D}, RDs K φ H ds vs → ds[i]? = some d → ∃ v, vs[i]? = some v ∧ RD K φ H d v
  | [], _, _, _, _, e => by simp at e
  | d :: ds, vs, i, x, h, e => by
    obtain ⟨v, r, rfl, h1, h2⟩ := h.inv
    cases i with
    | zero => simp at e; subst e; exact ⟨v, rfl, h1⟩
    | succ i => simpa using RDs.get h2 (by simpa using e)
theorem RDs.getV {K : PySem.W.Frag} {φ : List Addr} {H : Hp} : ∀ {ds : List D} {vs : List V} {i : Nat} {v : V}, RDs K φ H ds vs → vs[i]? = some v → ∃ d, ds[i]? = some d ∧ RD K φ H d v
  | [], vs, i, v, h, e => by have : vs = [] := by simpa [RDs] using h
                             subst this; simp at e
  | d :: ds, vs, i, x, h, e => by
    obtain ⟨v, r, rfl, h1, h2⟩ := h.inv
    cases i with
    | zero => simp at e; subst e; exact ⟨d, rfl, h1⟩
    | succ i => simpa using RDs.getV h2 (by simpa using e)
theorem RDs.append {K : PySem.W.Frag} {φ : List Addr} {H : Hp} : ∀ {xs ys : List D} {us vs : List V}, RDs K φ H xs us → RDs K φ H ys vs → RDs K φ H (xs ++ ys) (us ++ vs)
  | [], _, us, _, h, t => by have : us = [] := by simpa [RDs] using h
                             subst this; exact t
  | d :: ds, _, us, _, h, t => by
    obtain ⟨v, r, rfl, h1, h2⟩ := h.inv
    exact RDs.cons h1 (RDs.append h2 t)
theorem RDs.take {K : PySem.W.Frag} {φ : List Addr} {H : Hp} : ∀ {xs : List D} {us : List V} (n : Nat), RDs K φ H xs us → RDs K φ H (xs.take n) (us.take n)
  | _, _, 0, _ => by simpa using RDs.nil
  | [], us, n + 1, h => by have : us = [] := by simpa [RDs] using h
                           subst this; exact RDs.nil
  | d :: ds, us, n + 1, h => by
    obtain ⟨v, r, rfl, h1, h2⟩ := h.inv
    exact RDs.cons h1 (RDs.take n h2)
theorem RDs.drop {K : PySem.W.Frag} {φ : List Addr} {H : Hp} : ∀ {xs : List D} {us : List V} (n : Nat), RDs K φ H xs us → RDs K φ H (xs.drop n) (us.drop n)
  | _, _, 0, h => by simpa using h
  | [], us, n + 1, h => by have : us = [] := by simpa [RDs] using h
                           subst this; exact RDs.nil
  | d :: ds, us, n + 1, h => by
    obtain ⟨v, r, rfl, h1, h2⟩ := h.inv
    exact RDs.drop n h2
theorem RDs.set {K : PySem.W.Frag} {φ : List Addr} {H : Hp} {d : D} {v : V} (q : RD K φ H d v) : ∀ {xs : List D} {us : List V} (n : Nat), RDs K φ H xs us → RDs K φ H (xs.set n d) (us.set n v)
  | [], us, n, h => by have : us = [] := by simpa [RDs] using h
                       subst this; simpa using RDs.nil
  | x :: ds, us, 0, h => by
    obtain ⟨v, r, rfl, h1, h2⟩ := h.inv
    exact RDs.cons q h2
  | x :: ds, us, n + 1, h => by
    obtain ⟨v, r, rfl, h1, h2⟩ := h.inv
    exact RDs.cons h1 (RDs.set q n h2)
theorem RDs.reverse {K : PySem.W.Frag} {φ : List Addr} {H : Hp} : ∀ {xs : List D} {us : List V}, RDs K φ H xs us → RDs K φ H xs.reverse us.reverse
  | [], us, h => by have : us = [] := by simpa [RDs] using h
                    subst this; exact RDs.nil
  | x :: ds, us, h => by
    obtain ⟨v, r, rfl, h1, h2⟩ := h.inv
    rw [List.reverse_cons, List.reverse_cons]
    exact (RDs.reverse h2).append (RDs.cons h1 RDs.nil)
theorem RDs.eraseIdx {K : PySem.W.Frag} {φ : List Addr} {H : Hp} {xs : List D} {us : List V} (h : RDs K φ H xs us) (n : Nat) : RDs K φ H (xs.eraseIdx n) (us.eraseIdx n) := by
  rw [List.eraseIdx_eq_take_drop_succ, List.eraseIdx_eq_take_drop_succ]
  exact (h.take n).append (h.drop (n + 1))
theorem RDs.dropLast {K : PySem.W.Frag} {φ : List Addr} {H : Hp} {xs : List D} {us : List V} (h : RDs K φ H xs us) : RDs K φ H xs.dropLast us.dropLast := by
  rw [List.dropLast_eq_take, List.dropLast_eq_take, h.length]
  exact h.take _

/-! ### what stays -/
structure Ext (φ : List Addr) (H : Hp) (φ' : List Addr) (H' : Hp) : Prop where
  pre : ∃ t, φ' = φ ++ t
  keep : ∀ b o, H b = some o → b ∉ φ → H' b = some o
  im : ∀ b o, H b = some o → ¬ Mut (some o) → H' b = some o
  new : ∀ b, b ∈ φ' → b ∈ φ ∨ H b = none
/-- what values lean on -/
structure Le (φ : List Addr) (H : Hp) (φ' : List Addr) (H' : Hp) : Prop where
  get : ∀ {n : Nat} {a : Addr}, φ[n]? = some a → φ'[n]? = some a
  im : ∀ b o, H b = some o → ¬ Mut (some o) → H' b = some o
theorem Ext.refl {φ : List Addr} {H : Hp} : Ext φ H φ H := ⟨⟨[], by simp⟩, fun _ _ e _ => e, fun _ _ e _ => e, fun _ h => .inl h⟩
theorem Ext.get {φ φ' : List Addr} {H H' : Hp} (x : Ext φ H φ' H') {n : Nat} {a : Addr} (h : φ[n]? = some a) : φ'[n]? = some a := by
  obtain ⟨t, rfl⟩ := x.pre
  rw [List.getElem?_append_left (List.getElem?_eq_some_iff.mp h).1]; exact h
theorem Ext.mem {φ φ' : List Addr} {H H' : Hp} (x : Ext φ H φ' H') {a : Addr} (h : a ∈ φ) : a ∈ φ' := by
  obtain ⟨t, rfl⟩ := x.pre
  exact List.mem_append_left _ h
theorem Ext.trans {φ φ1 φ2 : List Addr} {H H1 H2 : Hp} (x : Ext φ H φ1 H1) (y : Ext φ1 H1 φ2 H2) : Ext φ H φ2 H2 := by
  refine ⟨?_, fun b o e hb => ?_, fun b o e m => y.im b o (x.im b o e m) m, fun b hb => ?_⟩
  · obtain ⟨t, rfl⟩ := x.pre
    obtain ⟨u, rfl⟩ := y.pre
    exact ⟨t ++ u, by simp⟩
  · refine y.keep b o (x.keep b o e hb) fun hm => ?_
    rcases x.new b hm with h | h
    · exact hb h
    · rw [e] at h; cases h
  · rcases y.new b hb with h | h
    · exact x.new b h
    · by_cases hm : b ∈ φ
      · exact .inl hm
      · refine .inr ?_
        cases q : H b with
        | none => rfl
        | some o => rw [x.keep b o q hm] at h; cases h
theorem Ext.le {φ φ' : List Addr} {H H' : Hp} (x : Ext φ H φ' H') : Le φ H φ' H' := ⟨x.get, x.im⟩
theorem RolAt.mono {K : PySem.W.Frag} {φ φ' : List Addr} {H H' : Hp} (x : Le φ H φ' H') {a : Addr} {vs : List V} (h : RolAt K H a vs) : RolAt K H' a vs := by
  rcases h with ⟨o, h⟩ | ⟨_, h⟩
  · exact .inl ⟨o, x.im _ _ h fun z => z⟩
  · exact .inr ⟨h H', h⟩
theorem RolAt.seq {K : PySem.W.Frag} {H : Hp} {a : Addr} {vs : List V} (h : RolAt K H a vs) : SqL K H a vs := by
  rcases h with ⟨o, h⟩ | ⟨h, _⟩
  · exact .inl (.inr ⟨o, h⟩)
  · exact h
mutual
theorem RD.le {K : PySem.W.Frag} {φ φ' : List Addr} {H H' : Hp} (x : Le φ H φ' H') : ∀ {d : D} {v : V}, RD K φ H d v → RD K φ' H' d v
  | .non, v, h => by simpa only [RD] using h
  | .bl b, v, h => by simpa only [RD] using h
  | .int i, v, h => by simpa only [RD] using h
  | .str s, v, h => by simpa only [RD] using h
  | .adr s, v, h => by simpa only [RD] using h
  | .tup ds, v, h => by
    simp only [RD] at h ⊢
    obtain ⟨a, vs, e, h1, h2⟩ := h
    exact ⟨a, vs, e, x.im _ _ h1 fun z => z, RDs.le x h2⟩
  | .rol ds, v, h => by
    simp only [RD] at h ⊢
    obtain ⟨a, vs, e, h1, h2⟩ := h
    exact ⟨a, vs, e, h1.mono x, RDs.le x h2⟩
  | .ref n, v, h => by
    simp only [RD] at h ⊢
    obtain ⟨a, h1, h2⟩ := h
    exact ⟨a, x.get h1, h2⟩
theorem RDs.le {K : PySem.W.Frag} {φ φ' : List Addr} {H H' : Hp} (x : Le φ H φ' H') : ∀ {ds : List D} {vs : List V}, RDs K φ H ds vs → RDs K φ' H' ds vs
  | [], vs, h => by simpa only [RDs] using h
  | d :: ds, vs, h => by
    simp only [RDs] at h ⊢
    obtain ⟨v, r, e, h1, h2⟩ := h
    exact ⟨v, r, e, RD.le x h1, RDs.le x h2⟩
end

theorem RD.mono {K : PySem.W.Frag} {φ φ' : List Addr} {H H' : Hp} (x : Ext φ H φ' H') {d : D} {v : V} (h : RD K φ H d v) : RD K φ' H' d v := h.le x.le
theorem RDs.mono {K : PySem.W.Frag} {φ φ' : List Addr} {H H' : Hp} (x : Ext φ H φ' H') {ds : List D} {vs : List V} (h : RDs K φ H ds vs) : RDs K φ' H' ds vs := h.le x.le

/-! ### the store, the slots -/
def RKs (K : PySem.W.Frag) (φ : List Addr) (H : Hp) {κ : Type} (ks : List (κ × D)) (vs : List (κ × V)) : Prop := ks.map (·.1) = vs.map (·.1) ∧ RDs K φ H (ks.map (·.2)) (vs.map (·.2))
def RC (K : PySem.W.Frag) (mg : Str → Option Value) (φ : List Addr) (H : Hp) (a : Addr) : Cell → Prop
  | .lst ds => ∃ vs, H a = some (.lst vs) ∧ RDs K φ H ds vs ∧ ds.length ≤ sizeLine
  | .dct ks => ∃ vs, H a = some (.dK vs) ∧ RKs K φ H ks vs ∧ ks.length ≤ sizeLine
  | .ins c fs => ∃ C dx vs, mg c = some (.ref C) ∧ H a = some (.ins C dx vs) ∧ RKs K φ H fs vs
structure RS (K : PySem.W.Frag) (mg : Str → Option Value) (φ : List Addr) (S : Store) (H : Hp) : Prop where
  len : φ.length = S.length
  nd : φ.Nodup
  cell : ∀ (n : Nat) (c : Cell) (a : Addr), S[n]? = some c → φ[n]? = some a → RC K mg φ H a c
structure RE (K : PySem.W.Frag) (φ : List Addr) (H : Hp) (ρ : DEnv) (σ : L2.St) : Prop where
  len : ρ.length = σ.length
  get : ∀ (i : Nat) (d : D), ρ[i]? = some (some d) → ∃ v, σ[i]? = some (some v) ∧ RD K φ H d v
section
variable {K : PySem.W.Frag} {mg : Str → Option Value} {φ φ' : List Addr} {S : Store} {H H' : Hp} {ρ : DEnv} {σ : L2.St}
theorem RKs.mono {κ : Type} {ks : List (κ × D)} {vs : List (κ × V)} (x : Ext φ H φ' H') (h : RKs K φ H ks vs) : RKs K φ' H' ks vs := ⟨h.1, h.2.mono x⟩
theorem RE.mono (x : Ext φ H φ' H') (h : RE K φ H ρ σ) : RE K φ' H' ρ σ := ⟨h.len, fun i d e => let ⟨v, h1, h2⟩ := h.get i d e; ⟨v, h1, h2.mono x⟩⟩
theorem RE.set (h : RE K φ H ρ σ) {d : D} {v : V} (r : RD K φ H d v) (i : Nat) : RE K φ H (ρ.set i (some d)) (σ.set i (some v)) := by
  refine ⟨by simp [h.len], fun j e q => ?_⟩
  by_cases hj : i = j
  · subst hj
    have hi : i < ρ.length := by
      have := (List.getElem?_eq_some_iff.mp q).1
      simpa using this
    rw [List.getElem?_set_self hi] at q
    cases q
    exact ⟨v, List.getElem?_set_self (by rw [← h.len]; exact hi), r⟩
  · rw [List.getElem?_set_ne hj] at q
    rw [List.getElem?_set_ne hj]
    exact h.get j e q
theorem RE.none (h : RE K φ H ρ σ) (i : Nat) : RE K φ H (ρ.set i Option.none) (σ.set i Option.none) := by
  refine ⟨by simp [h.len], fun j e q => ?_⟩
  by_cases hj : i = j
  · subst hj
    by_cases hi : i < ρ.length
    · rw [List.getElem?_set_self hi] at q; cases q
    · rw [List.getElem?_eq_none (by simpa using hi)] at q; cases q
  · rw [List.getElem?_set_ne hj] at q
    rw [List.getElem?_set_ne hj]
    exact h.get j e q
theorem RC.mut {a : Addr} {c : Cell} (h : RC K mg φ H a c) : Mut (H a) := by
  cases c with
  | lst ds => obtain ⟨vs, e, _⟩ := h; rw [e]; trivial
  | dct ks => obtain ⟨vs, e, _⟩ := h; rw [e]; trivial
  | ins c fs => obtain ⟨C, dx, vs, _, e, _⟩ := h; rw [e]; trivial
theorem RS.mut (h : RS K mg φ S H) {a : Addr} (ha : a ∈ φ) : Mut (H a) := by
  obtain ⟨n, hn, e⟩ := List.mem_iff_getElem.mp ha
  have e1 : φ[n]? = some a := by rw [List.getElem?_eq_getElem hn, e]
  have hs : n < S.length := by rw [← h.len]; exact hn
  exact (h.cell n _ a (List.getElem?_eq_getElem hs) e1).mut
theorem RS.out (h : RS K mg φ S H) {p : Addr} (hp : H p = none) : p ∉ φ := fun hm => by
  have := h.mut hm
  rw [hp] at this; exact this
/-- the same store and places, the cells' objects as they were -/
theorem RC.mono {a : Addr} {c : Cell} (x : Ext φ H φ' H') (e : H' a = H a) (h : RC K mg φ H a c) : RC K mg φ' H' a c := by
  cases c with
  | lst ds => obtain ⟨vs, q, r, z⟩ := h; exact ⟨vs, by rw [e]; exact q, r.mono x, z⟩
  | dct ks => obtain ⟨vs, q, r, z⟩ := h; exact ⟨vs, by rw [e]; exact q, r.mono x, z⟩
  | ins c fs => obtain ⟨C, dx, vs, m, q, r⟩ := h; exact ⟨C, dx, vs, m, by rw [e]; exact q, r.mono x⟩
theorem RC.le {a : Addr} {c : Cell} (x : Le φ H φ' H') (e : H' a = H a) (h : RC K mg φ H a c) : RC K mg φ' H' a c := by
  cases c with
  | lst ds => obtain ⟨vs, q, r, z⟩ := h; exact ⟨vs, by rw [e]; exact q, r.le x, z⟩
  | dct ks => obtain ⟨vs, q, r, z⟩ := h; exact ⟨vs, by rw [e]; exact q, ⟨r.1, r.2.le x⟩, z⟩
  | ins c fs => obtain ⟨C, dx, vs, m, q, r⟩ := h; exact ⟨C, dx, vs, m, by rw [e]; exact q, ⟨r.1, r.2.le x⟩⟩
/-- a list that is not of the store (it is still being made) grows -/
theorem Le.grow {DD : Addr} {us vs : List V} (hD : H DD = some (.lst us)) : Le φ H φ (upd H DD (.lst vs)) :=
  ⟨id, fun b o e m => by rw [upd_ne fun (z : b = DD) => m (by rw [← e, z, hD]; trivial)]; exact e⟩
theorem RS.grow (h : RS K mg φ S H) {DD : Addr} {us vs : List V} (hD : H DD = some (.lst us)) (nd : DD ∉ φ) : RS K mg φ S (upd H DD (.lst vs)) :=
  ⟨h.len, h.nd, fun n c a e1 e2 => (h.cell n c a e1 e2).le (Le.grow hD) (upd_ne fun e => nd (e ▸ List.mem_of_getElem? e2))⟩
theorem Ext.grow {H1 : Hp} (x : Ext φ H1 φ' H) {DD : Addr} {vs : List V} (hn : H1 DD = none) (hm : H DD = none ∨ ∃ us, H DD = some (.lst us)) : Ext φ H1 φ' (upd H DD (.lst vs)) :=
  ⟨x.pre, fun b o e hb => by rw [upd_ne (ne_of_none e hn)]; exact x.keep b o e hb, fun b o e m => by rw [upd_ne (ne_of_none e hn)]; exact x.im b o e m, x.new⟩
/-- it comes to the store -/
theorem RS.adopt (h : RS K mg φ S H) {DD : Addr} {c : Cell} (nd : DD ∉ φ) (hc : RC K mg φ H DD c) : RS K mg (φ ++ [DD]) (S ++ [c]) H := by
  have x : Le φ H (φ ++ [DD]) H := ⟨fun e => by rw [List.getElem?_append_left (List.getElem?_eq_some_iff.mp e).1]; exact e, fun _ _ e _ => e⟩
  refine ⟨by simp [h.len], ?_, fun n d a e1 e2 => ?_⟩
  · rw [List.nodup_append]
    exact ⟨h.nd, by simp, fun a ha b hb e => by
      have : b = DD := by simpa using hb
      subst this; subst e; exact nd ha⟩
  · by_cases hn : n < S.length
    · rw [List.getElem?_append_left hn] at e1
      rw [List.getElem?_append_left (by rw [h.len]; exact hn)] at e2
      exact (h.cell n d a e1 e2).le x rfl
    · have hn2 : n = S.length := by
        have := (List.getElem?_eq_some_iff.mp e1).1
        simp at this; omega
      subst hn2
      rw [List.getElem?_append_right (Nat.le_refl _)] at e1
      rw [← h.len, List.getElem?_append_right (Nat.le_refl _)] at e2
      simp at e1 e2
      subst e1; subst e2; exact hc.le x rfl
theorem Ext.adopt {H1 : Hp} (x : Ext φ H1 φ' H) {DD : Addr} (hn : H1 DD = none) : Ext φ H1 (φ' ++ [DD]) H := by
  refine ⟨?_, x.keep, x.im, fun b hb => ?_⟩
  · obtain ⟨t, rfl⟩ := x.pre
    exact ⟨t ++ [DD], by simp⟩
  · rcases List.mem_append.mp hb with q | q
    · exact x.new b q
    · have : b = DD := by simpa using q
      subst this; exact .inr hn
/-- an object that the store doesn't know is laid (a tuple, an iterator's list) -/
theorem Ext.laid (h : RS K mg φ S H) {p : Addr} {o : HO} (hp : H p = none) : Ext φ H φ (upd H p o) := by
  refine ⟨⟨[], by simp⟩, fun b u e _ => ?_, fun b u e _ => ?_, fun b hb => .inl hb⟩ <;>
  · rw [upd_ne (ne_of_none e hp)]; exact e
theorem RS.laid (h : RS K mg φ S H) {p : Addr} {o : HO} (hp : H p = none) : RS K mg φ S (upd H p o) := by
  refine ⟨h.len, h.nd, fun n c a e1 e2 => ?_⟩
  have ha : a ∈ φ := List.mem_of_getElem? e2
  exact (h.cell n c a e1 e2).mono (Ext.laid h hp) (upd_ne fun e => h.out hp (e ▸ ha))
/-- a new cell -/
theorem Ext.alloc (h : RS K mg φ S H) {p : Addr} {o : HO} (hp : H p = none) : Ext φ H (φ ++ [p]) (upd H p o) := by
  refine ⟨⟨[p], rfl⟩, fun b u e _ => ?_, fun b u e _ => ?_, fun b hb => ?_⟩
  · rw [upd_ne (ne_of_none e hp)]; exact e
  · rw [upd_ne (ne_of_none e hp)]; exact e
  · rcases List.mem_append.mp hb with q | q
    · exact .inl q
    · have : b = p := by simpa using q
      subst this; exact .inr hp
theorem RS.alloc (h : RS K mg φ S H) {p : Addr} {o : HO} {c : Cell} (hp : H p = none) (hc : RC K mg (φ ++ [p]) (upd H p o) p c) : RS K mg (φ ++ [p]) (S ++ [c]) (upd H p o) := by
  refine ⟨by simp [h.len], ?_, fun n d a e1 e2 => ?_⟩
  · rw [List.nodup_append]
    exact ⟨h.nd, by simp, fun a ha b hb e => by
      have : b = p := by simpa using hb
      subst this; subst e; exact h.out hp ha⟩
  · by_cases hn : n < S.length
    · rw [List.getElem?_append_left hn] at e1
      rw [List.getElem?_append_left (by rw [h.len]; exact hn)] at e2
      have ha : a ∈ φ := List.mem_of_getElem? e2
      exact (h.cell n d a e1 e2).mono (Ext.alloc h hp) (upd_ne fun e => h.out hp (e ▸ ha))
    · have hn2 : n = S.length := by
        have := (List.getElem?_eq_some_iff.mp e1).1
        simp at this; omega
      subst hn2
      rw [List.getElem?_append_right (Nat.le_refl _)] at e1
      rw [← h.len, List.getElem?_append_right (Nat.le_refl _)] at e2
      simp at e1 e2
      subst e1; subst e2; exact hc
theorem alloc_ref (h : RS K mg φ S H) (p : Addr) : RD K (φ ++ [p]) H' (.ref S.length) (.ref p) := by
  simp only [RD]
  exact ⟨p, by rw [← h.len, List.getElem?_append_right (Nat.le_refl _)]; simp, rfl⟩
/-- a cell is written -/
theorem Ext.write (h : RS K mg φ S H) {a : Addr} {o : HO} (ha : a ∈ φ) : Ext φ H φ (upd H a o) := by
  refine ⟨⟨[], by simp⟩, fun b u e hb => ?_, fun b u e m => ?_, fun b hb => .inl hb⟩
  · rw [upd_ne fun (z : b = a) => hb (z ▸ ha)]; exact e
  · rw [upd_ne fun (z : b = a) => m (by rw [← e, z]; exact h.mut ha)]; exact e
theorem RS.write (h : RS K mg φ S H) {n : Nat} {a : Addr} {o : HO} {c : Cell} (hn : φ[n]? = some a) (hc : RC K mg φ (upd H a o) a c) : RS K mg φ (S.set n c) (upd H a o) := by
  have ha : a ∈ φ := List.mem_of_getElem? hn
  refine ⟨by simp [h.len], h.nd, fun m d b e1 e2 => ?_⟩
  by_cases hm : n = m
  · subst hm
    rw [hn] at e2; cases e2
    have : n < S.length := by rw [← h.len]; exact (List.getElem?_eq_some_iff.mp hn).1
    rw [List.getElem?_set_self this] at e1
    cases e1; exact hc
  · rw [List.getElem?_set_ne hm] at e1
    have hb : b ≠ a := fun e => hm (by
      subst e
      obtain ⟨h1, q1⟩ := List.getElem?_eq_some_iff.mp hn
      obtain ⟨h2, q2⟩ := List.getElem?_eq_some_iff.mp e2
      exact (List.getElem_inj h.nd).mp (q1.trans q2.symm))
    exact (h.cell m d b e1 e2).mono (Ext.write h ha) (upd_ne hb)
theorem RS.ref (h : RS K mg φ S H) {n : Nat} {c : Cell} (hn : S[n]? = some c) : ∃ a, φ[n]? = some a ∧ RC K mg φ H a c := by
  have h1 : n < φ.length := by rw [h.len]; exact (List.getElem?_eq_some_iff.mp hn).1
  exact ⟨φ[n], List.getElem?_eq_getElem h1, h.cell n c _ hn (List.getElem?_eq_getElem h1)⟩
/-- a list's place -/
theorem RS.lst (h : RS K mg φ S H) {n : Nat} {ds : List D} {v : V} (hn : S[n]? = some (.lst ds)) (r : RD K φ H (.ref n) v) : ∃ a vs, v = .ref a ∧ φ[n]? = some a ∧ H a = some (.lst vs) ∧ RDs K φ H ds vs ∧ ds.length ≤ sizeLine := by
  simp only [RD] at r
  obtain ⟨a, ha, rfl⟩ := r
  obtain ⟨vs, q, r, z⟩ := h.cell n _ a hn ha
  exact ⟨a, vs, rfl, ha, q, r, z⟩
end

/-! ### readings -/
def tmA (K : PySem.W.Frag) (mg : Str → Option Value) (WW : WX) (φ : List Addr) (ρ : DEnv) (S : Store) (w : W) (σ : L2.St) (H : Hp) (Q : VK) : Prop :=
  RS K mg φ S H ∧ RE K φ H ρ σ ∧ ∃ (Q' : PQ) (E' : PX), w ρ S Q' E' ∧
    (∀ d S', Q' d S' → ∀ v φ' H', Ext φ H φ' H' → RS K mg φ' S' H' → RD K φ' H' d v → Q v H') ∧
    (∀ c ρ' S', E' c ρ' S' → ∀ u φ' H' σ', Ext φ H φ' H' → RS K mg φ' S' H' → RE K φ' H' ρ' σ' → mg c = some u → WW u none σ' H')
def tm (K : PySem.W.Frag) (mg : Str → Option Value) (WW : WX) (w : W) : TE := fun σ H Q => ∃ φ ρ S, tmA K mg WW φ ρ S w σ H Q
def bindW (a : W) (k : D → W) : W := fun ρ S Q E => a ρ S (fun d S1 => k d ρ S1 Q E) E
def ret (d : D) : W := fun _ S Q _ => Q d S
theorem PE.conv {X : Cx} {e : Expr} {t u : TE} (h : PE X e t) (q : ∀ σ H Q, u σ H Q → t σ H Q) : PE X e u := ⟨fun pins s σ H Q I hw => h.run pins s σ H Q I (q σ H Q hw)⟩
theorem PT.conv {X : Cx} {e : Expr} {t u : TT} (h : PT X e t) (q : ∀ σ H Q, u σ H Q → t σ H Q) : PT X e u := ⟨fun pins s σ H Q I hw => h.run pins s σ H Q I (q σ H Q hw)⟩
theorem PS.conv {X : Cx} {e : Stmt} {t u : TS} (h : PS X e t) (q : ∀ D σ H, u D σ H → t D σ H) : PS X e u := ⟨fun pins s σ H Q I hw => h.run pins s σ H Q I (q Q σ H hw)⟩
theorem PSs.conv {X : Cx} {e : List Stmt} {t u : TS} (h : PSs X e t) (q : ∀ D σ H, u D σ H → t D σ H) : PSs X e u := ⟨fun pins s σ H Q I hw => h.run pins s σ H Q I (q Q σ H hw)⟩
theorem PA.conv {X : Cx} {e : List Expr} {t u : TA} (h : PA X e t) (q : ∀ σ H Q, u σ H Q → t σ H Q) : PA X e u := ⟨fun pos pins s σ H Q I hw => h.run pos pins s σ H Q I (q σ H Q hw)⟩
section
variable {K : PySem.W.Frag} {mg : Str → Option Value} {WW : WX} {φ : List Addr} {ρ : DEnv} {S : Store} {σ : L2.St} {H : Hp} {Q : VK}
theorem tmA.bind {a : W} {k : D → W} (h : tmA K mg WW φ ρ S (bindW a k) σ H Q) :
    tmA K mg WW φ ρ S a σ H (fun v H1 => ∃ d φ1 S1, Ext φ H φ1 H1 ∧ RD K φ1 H1 d v ∧ tmA K mg WW φ1 ρ S1 (k d) σ H1 Q) := by
  obtain ⟨rs, re, Q', E', hw, hn, hx⟩ := h
  refine ⟨rs, re, _, E', hw, fun d S1 h1 v φ1 H1 x rs1 rd => ?_, hx⟩
  exact ⟨d, φ1, S1, x, rd, rs1, re.mono x, Q', E', h1, fun d2 S2 h2 v2 φ2 H2 y rs2 rd2 => hn d2 S2 h2 v2 φ2 H2 (x.trans y) rs2 rd2,
    fun c ρ2 S2 h2 u φ2 H2 σ2 y rs2 re2 m => hx c ρ2 S2 h2 u φ2 H2 σ2 (x.trans y) rs2 re2 m⟩
theorem tmA.ret {d : D} {v : V} (h : tmA K mg WW φ ρ S (ret d) σ H Q) (r : RD K φ H d v) : Q v H := by
  obtain ⟨rs, re, Q', E', hw, hn, hx⟩ := h
  exact hn d S hw v φ H Ext.refl rs r
theorem tmA.run {w : W} {t : TE} (h : ∀ σ H Q, tm K mg WW w σ H Q → t σ H Q) (q : tmA K mg WW φ ρ S w σ H Q) : t σ H Q := h σ H Q ⟨φ, ρ, S, q⟩
end

/-! ### data for == -/
mutual
inductive DPy (S : Store) : D → PyData → Prop
  | non : DPy S .non .none
  | bl (b : Bool) : DPy S (.bl b) (.bool b)
  | int (i : Int) : DPy S (.int i) (.int i)
  | str (x : Str) : DPy S (.str x) (.str x)
  | tup {ds : List D} {ps : List PyData} : DPys S ds ps → DPy S (.tup ds) (.tuple ps)
  | rol {ds : List D} {ps : List PyData} : DPys S ds ps → DPy S (.rol ds) (.list ps)
  | lst {n : Nat} {ds : List D} {ps : List PyData} : S[n]? = some (.lst ds) → DPys S ds ps → DPy S (.ref n) (.list ps)
inductive DPys (S : Store) : List D → List PyData → Prop
  | nil : DPys S [] []
  | cons {d : D} {ds : List D} {p : PyData} {ps : List PyData} : DPy S d p → DPys S ds ps → DPys S (d :: ds) (p :: ps)
end
section
variable {K : PySem.W.Frag} {mg : Str → Option Value} {φ : List Addr} {S : Store} {H : Hp}
mutual
theorem DPy.dp (rs : RS K mg φ S H) : ∀ {d : D} {p : PyData} {v : V}, DPy S d p → RD K φ H d v → Dp K H v p
  | _, _, v, .non, r => by
    have : v = .non := by simpa only [RD] using r
    subst this; exact .non
  | _, _, v, .bl b, r => by
    have : v = .bl b := by simpa only [RD] using r
    subst this; exact .bl b
  | _, _, v, .int i, r => by
    have : v = .int i := by simpa only [RD] using r
    subst this; exact .int i
  | _, _, v, .str i, r => by
    have : v = .str i := by simpa only [RD] using r
    subst this; exact .str i
  | _, _, v, .tup h, r => by
    simp only [RD] at r
    obtain ⟨a, vs, rfl, ha, r⟩ := r
    exact .tup (SqT.of ha) (DPys.dp rs h r)
  | _, _, v, .rol h, r => by
    simp only [RD] at r
    obtain ⟨a, vs, rfl, ha, r⟩ := r
    exact .lst ha.seq (DPys.dp rs h r)
  | _, _, v, .lst hn h, r => by
    obtain ⟨a, vs, rfl, ha, hH, r, _⟩ := rs.lst hn r
    exact .lst (SqL.of hH) (DPys.dp rs h r)
theorem DPys.dp (rs : RS K mg φ S H) : ∀ {ds : List D} {ps : List PyData} {vs : List V}, DPys S ds ps → RDs K φ H ds vs → DpAll K H vs ps
  | _, _, vs, .nil, r => by
    have : vs = [] := by simpa [RDs] using r
    subst this; exact .nil
  | _, _, vs, .cons h t, r => by
    obtain ⟨v, r', rfl, h1, h2⟩ := r.inv
    exact .cons (DPy.dp rs h h1) (DPys.dp rs t h2)
end
end

/-! ### readings by values -/
def fail : W := fun _ _ _ _ => False
def pAdd : D → D → W
  | .int i, .int j => ret (.int (i + j))
  | .str x, .str y => fun _ S Q _ => x.length + y.length ≤ sizeLine ∧ Q (.str (x ++ y)) S
  | .ref a, .ref b => fun _ S Q _ => ∃ xs ys, S[a]? = some (.lst xs) ∧ S[b]? = some (.lst ys) ∧ xs.length + ys.length ≤ sizeLine ∧ Q (.ref S.length) (S ++ [.lst (xs ++ ys)])
  | _, _ => fail
def pSub : D → D → W
  | .int i, .int j => ret (.int (i - j))
  | _, _ => fail
def pMul : D → D → W
  | .int i, .int j => fun _ S Q _ => (CMul i j ∨ CMulW i j) ∧ Q (.int (i * j)) S
  | _, _ => fail
def pDiv : D → D → W
  | .int i, .int j => fun _ S Q _ => (0 < j ∧ j.natAbs.log2 < 9000) ∧ Q (.int (i / j)) S
  | _, _ => fail
def pMod : D → D → W
  | .int i, .int j => fun _ S Q _ => 0 < j ∧ Q (.int (i % j)) S
  | _, _ => fail
def pPow : D → D → W
  | .int i, .int j => fun _ S Q _ => CPow i j ∧ Q (.int (i ^ j.toNat)) S
  | _, _ => fail
def pNeg : D → W
  | .int i => ret (.int (-i))
  | _ => fail
def pLt : D → D → W
  | .int i, .int j => ret (.bl (decide (i < j)))
  | _, _ => fail
def pLe : D → D → W
  | .int i, .int j => ret (.bl (decide (i ≤ j)))
  | _, _ => fail
def pGt : D → D → W
  | .int i, .int j => ret (.bl (decide (j < i)))
  | _, _ => fail
def pGe : D → D → W
  | .int i, .int j => ret (.bl (decide (j ≤ i)))
  | _, _ => fail
def pEqG (d e : D) : W := fun _ S Q _ => ∃ p q, DPy S d p ∧ DPy S e q ∧ SeqAt.shaped p = true ∧ SeqAt.shaped q = true ∧ Q (.bl (PyData.eqv p q)) S
def pNeG (d e : D) : W := fun _ S Q _ => ∃ p q, DPy S d p ∧ DPy S e q ∧ SeqAt.shaped p = true ∧ SeqAt.shaped q = true ∧ Q (.bl (!PyData.eqv p q)) S
def pEq : D → D → W
  | .int i, .int j => ret (.bl (decide (i = j)))
  | .str i, .str j => ret (.bl (decide (i = j)))
  | d, e => pEqG d e
def pNe : D → D → W
  | .int i, .int j => ret (.bl (!decide (i = j)))
  | .str i, .str j => ret (.bl (!decide (i = j)))
  | d, e => pNeG d e
def isNon : D → Bool
  | .non => true
  | _ => false
def pIsN (d : D) : W := ret (.bl (isNon d))
def pNotN (d : D) : W := ret (.bl (!isNon d))
def pIsB : D → D → W
  | .bl a, .bl b => ret (.bl (decide (a = b)))
  | _, _ => fail
def pNotB : D → D → W
  | .bl a, .bl b => ret (.bl (!decide (a = b)))
  | _, _ => fail
def pIx : D → D → W
  | .ref n, .int i => fun _ S Q _ => ∃ xs d, S[n]? = some (.lst xs) ∧ atI xs i = some d ∧ Q d S
  | .tup xs, .int i => fun _ S Q _ => ∃ d, atI xs i = some d ∧ Q d S
  | .rol xs, .int i => fun _ S Q _ => ∃ d, atI xs i = some d ∧ Q d S
  | .str z, .int i => fun _ S Q _ => ∃ c, z.length ≤ sizeLine ∧ atI z.cps.toList i = some c ∧ Q (.str ⟨#[c]⟩) S
  | _, _ => fail
def cutD (xs : List D) (lo hi : Option Int) : List D := (xs.drop (HT.sIx xs.length 0 lo)).take (HT.sIx xs.length xs.length hi - HT.sIx xs.length 0 lo)
def pSl : D → Option Int → Option Int → W
  | .ref n, lo, hi => fun _ S Q _ => ∃ xs, S[n]? = some (.lst xs) ∧ Q (.ref S.length) (S ++ [.lst (cutD xs lo hi)])
  | .rol xs, lo, hi => fun _ S Q _ => xs.length ≤ sizeLine ∧ Q (.ref S.length) (S ++ [.lst (cutD xs lo hi)])
  | .str z, lo, hi => fun _ S Q _ => z.length ≤ sizeLine ∧ Q (.str (cutS z lo hi)) S
  | .tup xs, lo, hi => fun _ S Q _ => ¬ (HT.sIx xs.length 0 lo = 0 ∧ HT.sIx xs.length xs.length hi = xs.length) ∧ Q (.tup (cutD xs lo hi)) S
  | _, _, _ => fail
def pRev : D → W
  | .ref n => fun _ S Q _ => ∃ xs, S[n]? = some (.lst xs) ∧ Q (.ref S.length) (S ++ [.lst xs.reverse])
  | _ => fail
def pLen : D → W
  | .ref n => fun _ S Q _ => ∃ xs, S[n]? = some (.lst xs) ∧ Q (.int xs.length) S
  | .tup xs => ret (.int xs.length)
  | .rol xs => ret (.int xs.length)
  | .str z => fun _ S Q _ => z.length ≤ sizeLine ∧ Q (.int z.length) S
  | _ => fail

def wVar (i : Nat) : W := fun ρ S Q _ => match ρ[i]? with
  | some (some d) => Q d S
  | _ => False
def wOp1 (p : D → W) (a : W) : W := bindW a p
def wOp (p : D → D → W) (a b : W) : W := bindW a fun x => bindW b fun y => p x y
/-- and, or, not of truth values -/
def pB (k : Bool → W) : D → W
  | .bl b => k b
  | _ => fail
def wAnd (a b : W) : W := bindW a (pB fun c => if c = true then b else ret (.bl false))
def wOr (a b : W) : W := bindW a (pB fun c => if c = true then ret (.bl true) else b)
def wNot (a : W) : W := bindW a (pB fun c => ret (.bl !c))
def wChain (p q : D → D → W) (a b c : W) : W := bindW a fun x => bindW b fun y => bindW (p x y) (pB fun k => if k = true then bindW c fun z => q y z else ret (.bl false))
def evWs : List W → DEnv → Store → (List D → Store → Prop) → PX → Prop
  | [], _, S, Q, _ => Q [] S
  | w :: ws, ρ, S, Q, E => w ρ S (fun d S1 => evWs ws ρ S1 (fun ds S2 => Q (d :: ds) S2) E) E
def wTup (ws : List W) : W := fun ρ S Q E => evWs ws ρ S (fun ds S1 => ds.length ≤ 1000 ∧ Q (.tup ds) S1) E
def wLst (ws : List W) : W := fun ρ S Q E => evWs ws ρ S (fun ds S1 => ds.length ≤ 1000 ∧ Q (.ref S1.length) (S1 ++ [.lst ds])) E
/-- parts of a slice -/
def wPart (o : Option W) (k : Option Int → W) : W := match o with
  | none => k none
  | some w => bindW w fun d => match d with
    | .int i => k (some i)
    | _ => fail
def wSl (a : W) (lo hi : Option W) : W := bindW a fun x => wPart lo fun l => wPart hi fun h => pSl x l h
/-- a def's promise over the store -/
abbrev SPf := List D → Store → PQ → (Str → Store → Prop) → Prop
def wCall (sp : SPf) (ws : List W) (dfl : List D) : W := fun ρ S Q E => evWs ws ρ S (fun ds S1 => sp (ds ++ dfl) S1 Q (fun c S2 => E c ρ S2)) E
/-- a built-in's call by values -/
abbrev BPf := List D → W
def wB (b : BPf) (ws : List W) : W := fun ρ S Q E => evWs ws ρ S (fun ds S1 => b ds ρ S1 Q E) E

/-! ### arguments -/
def tma (K : PySem.W.Frag) (mg : Str → Option Value) (WW : WX) (ws : List W) : TA := fun σ H Q => ∃ φ ρ S, RS K mg φ S H ∧ RE K φ H ρ σ ∧ ∃ (Q' : List D → Store → Prop) (E' : PX), evWs ws ρ S Q' E' ∧
    (∀ ds S', Q' ds S' → ∀ vs φ' H', Ext φ H φ' H' → RS K mg φ' S' H' → RDs K φ' H' ds vs → Q vs H') ∧
    (∀ c ρ' S', E' c ρ' S' → ∀ u φ' H' σ', Ext φ H φ' H' → RS K mg φ' S' H' → RE K φ' H' ρ' σ' → mg c = some u → WW u none σ' H')

section
variable {X : Cx} {WW : WX} {a b c e : Expr} {es : List Expr} {pos : Pos} {wa wb wc : W} {ws : List W}
theorem se_var (i : Nat) {x : Str} {pos : Pos} (hN : X.N[i]? = some x := by rfl) (hv : Vis X.env.scope x := by first | exact Or.inl rfl | exact Or.inr (Or.inl rfl) | exact Or.inr (Or.inr rfl)) (hd : (x == ("__debug__" : Str)) = false := by decide)
    (hcd : (x == ("__classdict__" : Str)) = false := by decide) : PE X (.Name x pos) (tm X.K X.mg WW (wVar i)) := by
  refine PE.conv (pv i hN hv hd hcd) fun σ H Q h => ?_
  obtain ⟨φ, ρ, S, rs, re, Q', E', hw, hn, hx⟩ := h
  unfold wVar at hw
  split at hw
  · rename_i d hd
    obtain ⟨v, e1, r⟩ := re.get i d hd
    exact ⟨v, e1, hn d S hw v φ H Ext.refl rs r⟩
  · exact hw.elim
theorem ret_c {d : D} {v : V} (r : ∀ K φ H, RD K φ H d v) (σ : L2.St) (H : Hp) (Q : VK) (h : tm X.K X.mg WW (ret d) σ H Q) : tC v σ H Q := by
  obtain ⟨φ, ρ, S, h⟩ := h
  exact h.ret (r _ _ _)
theorem se_int {i : Int} {j : Nat} : PE X (.Constant (.int i) j pos) (tm X.K X.mg WW (ret (.int i))) := PE.conv pe_int (ret_c fun _ _ _ => by simp only [RD])
theorem se_bl {i : Bool} {j : Nat} : PE X (.Constant (.bool i) j pos) (tm X.K X.mg WW (ret (.bl i))) := PE.conv pe_bl (ret_c fun _ _ _ => by simp only [RD])
theorem se_non {j : Nat} : PE X (.Constant .none j pos) (tm X.K X.mg WW (ret .non)) := PE.conv pe_non (ret_c fun _ _ _ => by simp only [RD])
theorem se_str {i : Str} {j : Nat} : PE X (.Constant (.str i) j pos) (tm X.K X.mg WW (ret (.str i))) := PE.conv pe_str (ret_c fun _ _ _ => by simp only [RD])

/-- what a rule by values asks, from the reading over the store -/
def Pr2 (K : PySem.W.Frag) (mg : Str → Option Value) (WW : WX) (p : D → D → W) (r : R2) : Prop := ∀ φ ρ S σ H Q d1 d2 x y, RD K φ H d1 x → RD K φ H d2 y → tmA K mg WW φ ρ S (p d1 d2) σ H Q → r x y H Q
def Pr1 (K : PySem.W.Frag) (mg : Str → Option Value) (WW : WX) (p : D → W) (r : V → Hp → VK → Prop) : Prop := ∀ φ ρ S σ H Q d1 x, RD K φ H d1 x → tmA K mg WW φ ρ S (p d1) σ H Q → r x H Q
theorem tOp_of {p : D → D → W} {r : R2} (h : Pr2 X.K X.mg WW p r) (σ : L2.St) (H : Hp) (Q : VK) (q : tm X.K X.mg WW (wOp p wa wb) σ H Q) : tOp r (tm X.K X.mg WW wa) (tm X.K X.mg WW wb) σ H Q := by
  obtain ⟨φ, ρ, S, q⟩ := q
  obtain ⟨rs, re, Q1, E1, w1, n1, x1⟩ := q.bind
  refine ⟨φ, ρ, S, rs, re, Q1, E1, w1, fun d S1 h1 v φ1 H1 e1 rs1 rd1 => ?_, x1⟩
  obtain ⟨d1, φ2, S2, e2, rd2, q2⟩ := n1 d S1 h1 v φ1 H1 e1 rs1 rd1
  obtain ⟨rs, re, Q1, E1, w1, n1, x1⟩ := q2.bind
  refine ⟨φ2, ρ, S2, rs, re, Q1, E1, w1, fun d S3 h3 v3 φ3 H3 e3 rs3 rd3 => ?_, x1⟩
  obtain ⟨d4, φ4, S4, e4, rd4, q4⟩ := n1 d S3 h3 v3 φ3 H3 e3 rs3 rd3
  exact h φ4 ρ S4 σ H3 Q d1 d4 v v3 (rd2.mono e4) rd4 q4
theorem tUn_of {p : D → W} {r : V → Hp → VK → Prop} (h : Pr1 X.K X.mg WW p r) (σ : L2.St) (H : Hp) (Q : VK) (q : tm X.K X.mg WW (wOp1 p wa) σ H Q) : tUn r (tm X.K X.mg WW wa) σ H Q := by
  obtain ⟨φ, ρ, S, q⟩ := q
  obtain ⟨rs, re, Q1, E1, w1, n1, x1⟩ := q.bind
  refine ⟨φ, ρ, S, rs, re, Q1, E1, w1, fun d S1 h1 v φ1 H1 e1 rs1 rd1 => ?_, x1⟩
  obtain ⟨d1, φ2, S2, e2, rd2, q2⟩ := n1 d S1 h1 v φ1 H1 e1 rs1 rd1
  exact h φ2 ρ S2 σ H1 Q d1 v rd2 q2
theorem se_bin {op : Operator} {p : D → D → W} {r : R2} (ho : OpR X (binaryOp op) r) (h : Pr2 X.K X.mg WW p r) (ha : PE X a (tm X.K X.mg WW wa)) (hb : PE X b (tm X.K X.mg WW wb)) :
    PE X (.BinOp a op b pos) (tm X.K X.mg WW (wOp p wa wb)) := PE.conv (pe_op ho ha hb) (tOp_of h)
theorem se_cmp {op : CmpOp} {p : D → D → W} {r : R2} (ho : OpR X (compareOp op) r) (h : Pr2 X.K X.mg WW p r) (ha : PE X a (tm X.K X.mg WW wa)) (hb : PE X b (tm X.K X.mg WW wb)) (hm : behindInMarks op b = false) :
    PE X (.Compare a [op] [b] pos) (tm X.K X.mg WW (wOp p wa wb)) := PE.conv (pe_cmpR ho ha hb hm) (tOp_of h)
end
section
variable {K : PySem.W.Frag} {mg : Str → Option Value} {WW : WX} {φ : List Addr} {ρ : DEnv} {S : Store} {σ : L2.St} {H : Hp} {Q : VK} {v x y : V} {wa : W}
theorem RD.int_inv {i : Int} (h : RD K φ H (.int i) v) : v = .int i := by simpa only [RD] using h
theorem RD.str_inv {i : Str} (h : RD K φ H (.str i) v) : v = .str i := by simpa only [RD] using h
theorem RD.bl_inv {i : Bool} (h : RD K φ H (.bl i) v) : v = .bl i := by simpa only [RD] using h
theorem RD.non_inv (h : RD K φ H .non v) : v = .non := by simpa only [RD] using h
theorem RD.int {i : Int} : RD K φ H (.int i) (.int i) := by simp only [RD]
theorem RD.str {i : Str} : RD K φ H (.str i) (.str i) := by simp only [RD]
theorem RD.bl {i : Bool} : RD K φ H (.bl i) (.bl i) := by simp only [RD]
theorem RD.non : RD K φ H .non .non := by simp only [RD]
theorem tmA.no (h : tmA K mg WW φ ρ S fail σ H Q) : False := by
  obtain ⟨_, _, _, _, hw, _⟩ := h
  exact hw
/-- the end of a reading that makes a list -/
theorem mk_list {Q' : PQ} {ds : List D} {vs : List V} (rs : RS K mg φ S H) (r : RDs K φ H ds vs) (hl : ds.length ≤ sizeLine)
    (hn : ∀ d S', Q' d S' → ∀ v φ' H', Ext φ H φ' H' → RS K mg φ' S' H' → RD K φ' H' d v → Q v H') (hq : Q' (.ref S.length) (S ++ [.lst ds])) (p : Addr) (hp : H p = none) : Q (.ref p) (upd H p (.lst vs)) := by
  have e := Ext.alloc (o := .lst vs) rs hp
  exact hn _ _ hq _ _ _ e (rs.alloc hp ⟨vs, upd_same, r.mono e, hl⟩) (alloc_ref rs p)
theorem mk_tup {Q' : PQ} {ds : List D} {vs : List V} (rs : RS K mg φ S H) (r : RDs K φ H ds vs)
    (hn : ∀ d S', Q' d S' → ∀ v φ' H', Ext φ H φ' H' → RS K mg φ' S' H' → RD K φ' H' d v → Q v H') (hq : Q' (.tup ds) S) (p : Addr) (hp : H p = none) : Q (.ref p) (upd H p (.tup vs)) := by
  have e := Ext.laid (o := .tup vs) rs hp
  refine hn _ _ hq _ _ _ e (rs.laid hp) ?_
  simp only [RD]
  exact ⟨p, vs, rfl, upd_same, r.mono e⟩
theorem pr_add : Pr2 K mg WW pAdd (fun x y H Q => (rI0 (fun i j => .int (i + j)) x y H Q ∨ (fun (x y : V) (H : Hp) (Q : VK) => ∃ i j, x = .str i ∧ y = .str j ∧ i.length + j.length ≤ sizeLine ∧ Q (.str (i ++ j)) H) x y H Q) ∨ rCat x y H Q) := by
  intro φ ρ S σ H Q d1 d2 x y r1 r2 h
  unfold pAdd at h
  split at h
  · rw [r1.int_inv, r2.int_inv]
    exact .inl (.inl ⟨_, _, rfl, rfl, h.ret RD.int⟩)
  · rw [r1.str_inv, r2.str_inv]
    obtain ⟨rs, re, Q', E', ⟨hl, hq⟩, hn, hx⟩ := h
    exact .inl (.inr ⟨_, _, rfl, rfl, hl, hn _ _ hq _ _ _ Ext.refl rs RD.str⟩)
  · obtain ⟨rs, re, Q', E', ⟨xs, ys, h1, h2, hl, hq⟩, hn, hx⟩ := h
    obtain ⟨a1, v1, rfl, _, e1, q1, _⟩ := rs.lst h1 r1
    obtain ⟨a2, v2, rfl, _, e2, q2, _⟩ := rs.lst h2 r2
    refine .inr ⟨a1, a2, v1, v2, rfl, rfl, e1, e2, by rw [← q1.length, ← q2.length]; exact hl, fun p hp => ?_⟩
    exact mk_list rs (q1.append q2) (by simpa using hl) hn hq p hp
  · exact h.no.elim
theorem pr_sub : Pr2 K mg WW pSub (rI0 (fun i j => .int (i - j))) := by
  intro φ ρ S σ H Q d1 d2 x y r1 r2 h
  unfold pSub at h
  split at h
  · rw [r1.int_inv, r2.int_inv]
    exact ⟨_, _, rfl, rfl, h.ret RD.int⟩
  · exact h.no.elim
theorem pr_mul : Pr2 K mg WW pMul (fun x y H Q => rI CMul (fun i j => .int (i * j)) x y H Q ∨ rI CMulW (fun i j => .int (i * j)) x y H Q) := by
  intro φ ρ S σ H Q d1 d2 x y r1 r2 h
  unfold pMul at h
  split at h
  · rw [r1.int_inv, r2.int_inv]
    obtain ⟨rs, re, Q', E', ⟨hl, hq⟩, hn, hx⟩ := h
    rcases hl with hl | hl
    · exact .inl ⟨_, _, rfl, rfl, hl, hn _ _ hq _ _ _ Ext.refl rs RD.int⟩
    · exact .inr ⟨_, _, rfl, rfl, hl, hn _ _ hq _ _ _ Ext.refl rs RD.int⟩
  · exact h.no.elim
theorem pr_div : Pr2 K mg WW pDiv (rI CDivW (fun i j => .int (i / j))) := by
  intro φ ρ S σ H Q d1 d2 x y r1 r2 h
  unfold pDiv at h
  split at h
  · rw [r1.int_inv, r2.int_inv]
    obtain ⟨rs, re, Q', E', ⟨hl, hq⟩, hn, hx⟩ := h
    exact ⟨_, _, rfl, rfl, hl, hn _ _ hq _ _ _ Ext.refl rs RD.int⟩
  · exact h.no.elim
theorem pr_mod : Pr2 K mg WW pMod (rI (fun _ j => 0 < j) (fun i j => .int (i % j))) := by
  intro φ ρ S σ H Q d1 d2 x y r1 r2 h
  unfold pMod at h
  split at h
  · rw [r1.int_inv, r2.int_inv]
    obtain ⟨rs, re, Q', E', ⟨hl, hq⟩, hn, hx⟩ := h
    exact ⟨_, _, rfl, rfl, hl, hn _ _ hq _ _ _ Ext.refl rs RD.int⟩
  · exact h.no.elim
theorem pr_pow : Pr2 K mg WW pPow (rI CPow (fun i j => .int (i ^ j.toNat))) := by
  intro φ ρ S σ H Q d1 d2 x y r1 r2 h
  unfold pPow at h
  split at h
  · rw [r1.int_inv, r2.int_inv]
    obtain ⟨rs, re, Q', E', ⟨hl, hq⟩, hn, hx⟩ := h
    exact ⟨_, _, rfl, rfl, hl, hn _ _ hq _ _ _ Ext.refl rs RD.int⟩
  · exact h.no.elim
theorem pr_neg : Pr1 K mg WW pNeg (rU fun i => .int (-i)) := by
  intro φ ρ S σ H Q d1 x r1 h
  unfold pNeg at h
  split at h
  · rw [r1.int_inv]
    exact ⟨_, rfl, h.ret RD.int⟩
  · exact h.no.elim
theorem pr_lt : Pr2 K mg WW pLt (rI0 (fun i j => .bl (decide (i < j)))) := by
  intro φ ρ S σ H Q d1 d2 x y r1 r2 h
  unfold pLt at h
  split at h
  · rw [r1.int_inv, r2.int_inv]
    exact ⟨_, _, rfl, rfl, h.ret RD.bl⟩
  · exact h.no.elim
theorem pr_le : Pr2 K mg WW pLe (rI0 (fun i j => .bl (decide (i ≤ j)))) := by
  intro φ ρ S σ H Q d1 d2 x y r1 r2 h
  unfold pLe at h
  split at h
  · rw [r1.int_inv, r2.int_inv]
    exact ⟨_, _, rfl, rfl, h.ret RD.bl⟩
  · exact h.no.elim
theorem pr_gt : Pr2 K mg WW pGt (rI0 (fun i j => .bl (decide (j < i)))) := by
  intro φ ρ S σ H Q d1 d2 x y r1 r2 h
  unfold pGt at h
  split at h
  · rw [r1.int_inv, r2.int_inv]
    exact ⟨_, _, rfl, rfl, h.ret RD.bl⟩
  · exact h.no.elim
theorem pr_ge : Pr2 K mg WW pGe (rI0 (fun i j => .bl (decide (j ≤ i)))) := by
  intro φ ρ S σ H Q d1 d2 x y r1 r2 h
  unfold pGe at h
  split at h
  · rw [r1.int_inv, r2.int_inv]
    exact ⟨_, _, rfl, rfl, h.ret RD.bl⟩
  · exact h.no.elim
theorem pr_eqG : Pr2 K mg WW pEqG (rEqD K) := by
  intro φ ρ S σ H Q d1 d2 x y r1 r2 h
  obtain ⟨rs, re, Q', E', ⟨p, q, hp, hq, s1, s2, hh⟩, hn, hx⟩ := h
  exact ⟨p, q, hp.dp rs r1, hq.dp rs r2, s1, s2, hn _ _ hh _ _ _ Ext.refl rs RD.bl⟩
theorem pr_neG : Pr2 K mg WW pNeG (rNeD K) := by
  intro φ ρ S σ H Q d1 d2 x y r1 r2 h
  obtain ⟨rs, re, Q', E', ⟨p, q, hp, hq, s1, s2, hh⟩, hn, hx⟩ := h
  exact ⟨p, q, hp.dp rs r1, hq.dp rs r2, s1, s2, hn _ _ hh _ _ _ Ext.refl rs RD.bl⟩
theorem dec_int (i j : Int) : decide (V.int i = V.int j) = decide (i = j) := by
  by_cases h : i = j
  · rw [decide_eq_true h, decide_eq_true (congrArg V.int h)]
  · rw [decide_eq_false h, decide_eq_false fun e => h (V.int.inj e)]
theorem dec_str (i j : Str) : decide (V.str i = V.str j) = decide (i = j) := by
  by_cases h : i = j
  · rw [decide_eq_true h, decide_eq_true (congrArg V.str h)]
  · rw [decide_eq_false h, decide_eq_false fun e => h (V.str.inj e)]
theorem pr_eq : Pr2 K mg WW pEq (fun x y H Q => rEq x y H Q ∨ rEqD K x y H Q) := by
  intro φ ρ S σ H Q d1 d2 x y r1 r2 h
  unfold pEq at h
  split at h
  · rw [r1.int_inv, r2.int_inv]
    refine .inl ⟨rfl, ?_⟩
    rw [dec_int]
    exact h.ret RD.bl
  · rw [r1.str_inv, r2.str_inv]
    refine .inl ⟨rfl, ?_⟩
    rw [dec_str]
    exact h.ret RD.bl
  · exact .inr (pr_eqG φ ρ S σ H Q _ _ x y r1 r2 h)
theorem pr_ne : Pr2 K mg WW pNe (fun x y H Q => rNe x y H Q ∨ rNeD K x y H Q) := by
  intro φ ρ S σ H Q d1 d2 x y r1 r2 h
  unfold pNe at h
  split at h
  · rw [r1.int_inv, r2.int_inv]
    refine .inl ⟨rfl, ?_⟩
    rw [dec_int]
    exact h.ret RD.bl
  · rw [r1.str_inv, r2.str_inv]
    refine .inl ⟨rfl, ?_⟩
    rw [dec_str]
    exact h.ret RD.bl
  · exact .inr (pr_neG φ ρ S σ H Q _ _ x y r1 r2 h)
theorem isNon_iff {d : D} (r : RD K φ H d x) : decide (x = .non) = isNon d := by
  cases d <;> simp only [RD] at r <;> (try (subst r; rfl))
  · obtain ⟨a, vs, rfl, _⟩ := r; rfl
  · obtain ⟨a, vs, rfl, _⟩ := r; rfl
  · obtain ⟨a, _, rfl⟩ := r; rfl
def pIsN2 (d _e : D) : W := pIsN d
def pNotN2 (d _e : D) : W := pNotN d
theorem pr_isB : Pr2 K mg WW pIsB rIsB := by
  intro φ ρ S σ H Q d1 d2 x y r1 r2 h
  unfold pIsB at h
  split at h
  · rw [r1.bl_inv, r2.bl_inv]
    exact ⟨_, _, rfl, rfl, h.ret RD.bl⟩
  · exact h.no.elim
theorem pr_notB : Pr2 K mg WW pNotB rNotB := by
  intro φ ρ S σ H Q d1 d2 x y r1 r2 h
  unfold pNotB at h
  split at h
  · rw [r1.bl_inv, r2.bl_inv]
    exact ⟨_, _, rfl, rfl, h.ret RD.bl⟩
  · exact h.no.elim
theorem atI_rd {xs : List D} {vs : List V} {i : Int} {d : D} (r : RDs K φ H xs vs) (h : atI xs i = some d) : ∃ v, atI vs i = some v ∧ RD K φ H d v := by
  unfold atI at h ⊢
  rw [← r.length]
  cases e : ixN xs.length i with
  | none => rw [e] at h; cases h
  | some j => rw [e] at h; exact r.get h
theorem pr_ix : Pr2 K mg WW pIx (rIx K) := by
  intro φ ρ S σ H Q d1 d2 x y r1 r2 h
  unfold pIx at h
  split at h
  · obtain ⟨rs, re, Q', E', ⟨xs, d, h1, h2, hq⟩, hn, hx⟩ := h
    obtain ⟨a1, v1, rfl, _, e1, q1, _⟩ := rs.lst h1 r1
    rw [r2.int_inv]
    obtain ⟨v, e2, rv⟩ := atI_rd q1 h2
    exact .inl ⟨a1, v1, _, v, rfl, rfl, SqL.of e1, e2, hn _ _ hq _ _ _ Ext.refl rs rv⟩
  · obtain ⟨rs, re, Q', E', ⟨d, h2, hq⟩, hn, hx⟩ := h
    simp only [RD] at r1
    obtain ⟨a1, v1, rfl, e1, q1⟩ := r1
    rw [r2.int_inv]
    obtain ⟨v, e2, rv⟩ := atI_rd q1 h2
    exact .inr (.inl ⟨a1, v1, _, v, rfl, rfl, SqT.of e1, e2, hn _ _ hq _ _ _ Ext.refl rs rv⟩)
  · obtain ⟨rs, re, Q', E', ⟨d, h2, hq⟩, hn, hx⟩ := h
    simp only [RD] at r1
    obtain ⟨a1, v1, rfl, e1, q1⟩ := r1
    rw [r2.int_inv]
    obtain ⟨v, e2, rv⟩ := atI_rd q1 h2
    exact .inl ⟨a1, v1, _, v, rfl, rfl, e1.seq, e2, hn _ _ hq _ _ _ Ext.refl rs rv⟩
  · obtain ⟨rs, re, Q', E', ⟨c, h1, h2, hq⟩, hn, hx⟩ := h
    rw [r1.str_inv, r2.int_inv]
    exact .inr (.inr ⟨_, _, c, rfl, rfl, h1, h2, hn _ _ hq _ _ _ Ext.refl rs RD.str⟩)
  · exact h.no.elim
theorem cut_rd {xs : List D} {vs : List V} {lo hi : Option Int} (r : RDs K φ H xs vs) : RDs K φ H (cutD xs lo hi) (cutV vs lo hi) := by
  unfold cutD cutV
  rw [r.length]
  exact (r.drop _).take _
theorem cutD_length (xs : List D) (lo hi : Option Int) : (cutD xs lo hi).length ≤ xs.length := by
  unfold cutD
  rw [List.length_take, List.length_drop]
  omega
theorem pr_sl {l h : Option Int} {d : D} (r : RD K φ H d x) (hh : tmA K mg WW φ ρ S (pSl d l h) σ H Q) : (rSlL K x l h H Q ∨ rSlS x l h H Q) ∨ rSlT K x l h H Q := by
  unfold pSl at hh
  split at hh
  · obtain ⟨rs, re, Q', E', ⟨xs, h1, hq⟩, hn, hx⟩ := hh
    obtain ⟨a1, v1, rfl, _, e1, q1, z⟩ := rs.lst h1 r
    refine .inl (.inl ⟨a1, v1, rfl, SqL.of e1, fun p hp => ?_⟩)
    exact mk_list rs (cut_rd q1) (Nat.le_trans (cutD_length _ _ _) z) hn hq p hp
  · obtain ⟨rs, re, Q', E', ⟨z, hq⟩, hn, hx⟩ := hh
    simp only [RD] at r
    obtain ⟨a1, v1, rfl, e1, q1⟩ := r
    refine .inl (.inl ⟨a1, v1, rfl, e1.seq, fun p hp => ?_⟩)
    exact mk_list rs (cut_rd q1) (Nat.le_trans (cutD_length _ _ _) z) hn hq p hp
  · obtain ⟨rs, re, Q', E', ⟨z, hq⟩, hn, hx⟩ := hh
    rw [r.str_inv]
    exact .inl (.inr ⟨_, rfl, z, hn _ _ hq _ _ _ Ext.refl rs RD.str⟩)
  · obtain ⟨rs, re, Q', E', ⟨z, hq⟩, hn, hx⟩ := hh
    simp only [RD] at r
    obtain ⟨a1, v1, rfl, e1, q1⟩ := r
    refine .inr ⟨a1, v1, rfl, SqT.of e1, by rw [← q1.length]; exact z, fun p hp => ?_⟩
    exact mk_tup rs (cut_rd q1) hn hq p hp
  · exact hh.no.elim
theorem pr_rev (q : tm K mg WW (wOp1 pRev wa) σ H Q) : tRevL K (tm K mg WW wa) σ H Q := by
  obtain ⟨φ, ρ, S, q⟩ := q
  obtain ⟨rs, re, Q1, E1, w1, n1, x1⟩ := q.bind
  refine ⟨φ, ρ, S, rs, re, Q1, E1, w1, fun d S1 h1 v φ1 H1 e1 rs1 rd1 => ?_, x1⟩
  obtain ⟨d1, φ2, S2, e2, rd2, q2⟩ := n1 d S1 h1 v φ1 H1 e1 rs1 rd1
  unfold pRev at q2
  split at q2
  · obtain ⟨rs, re, Q', E', ⟨xs, h1, hq⟩, hn, hx⟩ := q2
    obtain ⟨a1, v1, rfl, _, e1, q1, z⟩ := rs.lst h1 rd2
    refine ⟨a1, v1, rfl, SqL.of e1, fun p hp => ?_⟩
    exact mk_list rs q1.reverse (by simpa using z) hn hq p hp
  · exact q2.no.elim
end

/-! ### the rules -/
section
variable {X : Cx} {WW : WX} {a b c e : Expr} {es : List Expr} {pos : Pos} {wa wb wc : W} {ws : List W}
theorem se_add (ha : PE X a (tm X.K X.mg WW wa)) (hb : PE X b (tm X.K X.mg WW wb)) : PE X (.BinOp a .Add b pos) (tm X.K X.mg WW (wOp pAdd wa wb)) := se_bin ((op_add.or op_add_str).or op_cat) pr_add ha hb
theorem se_sub (ha : PE X a (tm X.K X.mg WW wa)) (hb : PE X b (tm X.K X.mg WW wb)) : PE X (.BinOp a .Sub b pos) (tm X.K X.mg WW (wOp pSub wa wb)) := se_bin op_sub pr_sub ha hb
theorem se_mul (ha : PE X a (tm X.K X.mg WW wa)) (hb : PE X b (tm X.K X.mg WW wb)) : PE X (.BinOp a .Mult b pos) (tm X.K X.mg WW (wOp pMul wa wb)) := se_bin (op_mul.or op_mulW) pr_mul ha hb
theorem se_div (ha : PE X a (tm X.K X.mg WW wa)) (hb : PE X b (tm X.K X.mg WW wb)) : PE X (.BinOp a .FloorDiv b pos) (tm X.K X.mg WW (wOp pDiv wa wb)) := se_bin op_fdivW pr_div ha hb
theorem se_mod (ha : PE X a (tm X.K X.mg WW wa)) (hb : PE X b (tm X.K X.mg WW wb)) : PE X (.BinOp a .Mod b pos) (tm X.K X.mg WW (wOp pMod wa wb)) := se_bin op_mod pr_mod ha hb
theorem se_pow (ha : PE X a (tm X.K X.mg WW wa)) (hb : PE X b (tm X.K X.mg WW wb)) : PE X (.BinOp a .Pow b pos) (tm X.K X.mg WW (wOp pPow wa wb)) := se_bin op_pow pr_pow ha hb
theorem se_neg (ha : PE X a (tm X.K X.mg WW wa)) : PE X (.UnaryOp .USub a pos) (tm X.K X.mg WW (wOp1 pNeg wa)) := PE.conv (pe_un un_neg ha) (tUn_of pr_neg)
theorem se_lt (ha : PE X a (tm X.K X.mg WW wa)) (hb : PE X b (tm X.K X.mg WW wb)) : PE X (.Compare a [.Lt] [b] pos) (tm X.K X.mg WW (wOp pLt wa wb)) := se_cmp op_lt pr_lt ha hb (nomark _)
theorem se_le (ha : PE X a (tm X.K X.mg WW wa)) (hb : PE X b (tm X.K X.mg WW wb)) : PE X (.Compare a [.LtE] [b] pos) (tm X.K X.mg WW (wOp pLe wa wb)) := se_cmp op_le pr_le ha hb (nomark _)
theorem se_gt (ha : PE X a (tm X.K X.mg WW wa)) (hb : PE X b (tm X.K X.mg WW wb)) : PE X (.Compare a [.Gt] [b] pos) (tm X.K X.mg WW (wOp pGt wa wb)) := se_cmp op_gt pr_gt ha hb (nomark _)
theorem se_ge (ha : PE X a (tm X.K X.mg WW wa)) (hb : PE X b (tm X.K X.mg WW wb)) : PE X (.Compare a [.GtE] [b] pos) (tm X.K X.mg WW (wOp pGe wa wb)) := se_cmp op_ge pr_ge ha hb (nomark _)
theorem se_eq (hu : X.A.units + 64 < cLine) (ha : PE X a (tm X.K X.mg WW wa)) (hb : PE X b (tm X.K X.mg WW wb)) : PE X (.Compare a [.Eq] [b] pos) (tm X.K X.mg WW (wOp pEq wa wb)) := se_cmp (op_eq.or (op_eqD hu)) pr_eq ha hb (nomark _)
theorem se_ne (hu : X.A.units + 64 < cLine) (ha : PE X a (tm X.K X.mg WW wa)) (hb : PE X b (tm X.K X.mg WW wb)) : PE X (.Compare a [.NotEq] [b] pos) (tm X.K X.mg WW (wOp pNe wa wb)) := se_cmp (op_ne.or (op_neD hu)) pr_ne ha hb (nomark _)
theorem se_isB (ha : PE X a (tm X.K X.mg WW wa)) (hb : PE X b (tm X.K X.mg WW wb)) : PE X (.Compare a [.Is] [b] pos) (tm X.K X.mg WW (wOp pIsB wa wb)) := se_cmp op_isBl pr_isB ha hb (nomark _)
theorem se_notB (ha : PE X a (tm X.K X.mg WW wa)) (hb : PE X b (tm X.K X.mg WW wb)) : PE X (.Compare a [.IsNot] [b] pos) (tm X.K X.mg WW (wOp pNotB wa wb)) := se_cmp op_notBl pr_notB ha hb (nomark _)
theorem se_isN {j : Nat} {p : Pos} (ha : PE X a (tm X.K X.mg WW wa)) : PE X (.Compare a [.Is] [.Constant .none j p] pos) (tm X.K X.mg WW (wOp1 pIsN wa)) := by
  refine PE.conv (pe_cmp (pc_isN ha) rfl) fun σ H Q q => ?_
  obtain ⟨φ, ρ, S, q⟩ := q
  obtain ⟨rs, re, Q1, E1, w1, n1, x1⟩ := q.bind
  refine ⟨φ, ρ, S, rs, re, Q1, E1, w1, fun d S1 h1 v φ1 H1 e1 rs1 rd1 => ?_, x1⟩
  obtain ⟨d1, φ2, S2, e2, rd2, q2⟩ := n1 d S1 h1 v φ1 H1 e1 rs1 rd1
  rw [isNon_iff rd2]
  exact q2.ret RD.bl
theorem se_notN {j : Nat} {p : Pos} (ha : PE X a (tm X.K X.mg WW wa)) : PE X (.Compare a [.IsNot] [.Constant .none j p] pos) (tm X.K X.mg WW (wOp1 pNotN wa)) := by
  refine PE.conv (pe_cmp (pc_notN ha) rfl) fun σ H Q q => ?_
  obtain ⟨φ, ρ, S, q⟩ := q
  obtain ⟨rs, re, Q1, E1, w1, n1, x1⟩ := q.bind
  refine ⟨φ, ρ, S, rs, re, Q1, E1, w1, fun d S1 h1 v φ1 H1 e1 rs1 rd1 => ?_, x1⟩
  obtain ⟨d1, φ2, S2, e2, rd2, q2⟩ := n1 d S1 h1 v φ1 H1 e1 rs1 rd1
  rw [isNon_iff rd2]
  exact q2.ret RD.bl
theorem se_ix (ha : PE X a (tm X.K X.mg WW wa)) (hb : PE X b (tm X.K X.mg WW wb)) (hs : PlainIx b) : PE X (.Subscript a b pos) (tm X.K X.mg WW (wOp pIx wa wb)) := PE.conv (pe_ix ix_seq ha hb hs) (tOp_of pr_ix)
theorem se_rev {k : Nat} {p1 p2 p3 : Pos} (ha : PE X a (tm X.K X.mg WW wa)) : PE X (.Subscript a (.Slice none none (some (.UnaryOp .USub (.Constant (.int 1) k p1) p2)) p3) pos) (tm X.K X.mg WW (wOp1 pRev wa)) := PE.conv (pe_revL ha) fun σ H Q q => pr_rev q
/-! tests -/
abbrev ttm (K : PySem.W.Frag) (mg : Str → Option Value) (WW : WX) (w : W) : TT := tTest (tm K mg WW w)
theorem st_val (h : PE X e (tm X.K X.mg WW wa)) (he : ∀ whole, isTrue e X.env whole = (do let v ← whole; standAt e.pos; holding [v] (truthy v)) := by intro _; rfl) : PT X e (ttm X.K X.mg WW wa) := PT.conv (pt_val h he) fun σ H Q q => q
theorem st_cmp {op : CmpOp} {p : D → D → W} {r : R2} (ho : OpR X (compareOp op) r) (h : Pr2 X.K X.mg WW p r) (ha : PE X a (tm X.K X.mg WW wa)) (hb : PE X b (tm X.K X.mg WW wb)) (hm : behindInMarks op b = false) :
    PT X (.Compare a [op] [b] pos) (ttm X.K X.mg WW (wOp p wa wb)) := PT.conv (pt_cmpR ho ha hb hm) fun σ H Q q => tOp_of h σ H _ q
end

section
variable {K : PySem.W.Frag} {mg : Str → Option Value} {WW : WX} {wa wb wc : W}
/-- the first of two parts is read -/
theorem tm_bind {k : D → W} {σ : L2.St} {H : Hp} {Q : VK} (q : tm K mg WW (bindW wa k) σ H Q) {R : VK} (h : ∀ d v φ ρ S H1, RD K φ H1 d v → tmA K mg WW φ ρ S (k d) σ H1 Q → R v H1) : tm K mg WW wa σ H R := by
  obtain ⟨φ, ρ, S, q⟩ := q
  obtain ⟨rs, re, Q1, E1, w1, n1, x1⟩ := q.bind
  refine ⟨φ, ρ, S, rs, re, Q1, E1, w1, fun d S1 h1 v φ1 H1 e1 rs1 rd1 => ?_, x1⟩
  obtain ⟨d1, φ2, S2, e2, rd2, q2⟩ := n1 d S1 h1 v φ1 H1 e1 rs1 rd1
  exact h d1 v φ2 ρ S2 H1 rd2 q2
theorem tmA.tm {φ : List Addr} {ρ : DEnv} {S : Store} {w : W} {σ : L2.St} {H : Hp} {Q : VK} (h : tmA K mg WW φ ρ S w σ H Q) : tm K mg WW w σ H Q := ⟨φ, ρ, S, h⟩
theorem tmA.pB {k : Bool → W} {d : D} {v : V} {φ : List Addr} {ρ : DEnv} {S : Store} {σ : L2.St} {H : Hp} {Q : VK} (r : RD K φ H d v) (h : tmA K mg WW φ ρ S (pB k d) σ H Q) : ∃ b, v = .bl b ∧ tmA K mg WW φ ρ S (k b) σ H Q := by
  unfold GS.pB at h
  split at h
  · exact ⟨_, r.bl_inv, h⟩
  · exact h.no.elim
end
section
variable {X : Cx} {WW : WX} {a b c e : Expr} {es rest : List Expr} {pos : Pos} {wa wb wc : W} {ws : List W}
theorem se_one {op : BoolOp} (h : PE X a (tm X.K X.mg WW wa)) : PE X (.BoolOp op [a] pos) (tm X.K X.mg WW wa) := pe_one h
theorem se_and (ha : PE X a (tm X.K X.mg WW wa)) (hb : PE X (.BoolOp .And (b :: rest) pos) (tm X.K X.mg WW wb)) : PE X (.BoolOp .And (a :: b :: rest) pos) (tm X.K X.mg WW (wAnd wa wb)) :=
  PE.conv (pe_and ha hb) fun σ H Q q => tm_bind q fun d v φ ρ S H1 r h => by
    obtain ⟨k, rfl, h⟩ := h.pB r
    refine ⟨k, rfl, ?_⟩
    cases k with
    | true => exact h.tm
    | false => exact h.ret RD.bl
theorem se_or (ha : PE X a (tm X.K X.mg WW wa)) (hb : PE X (.BoolOp .Or (b :: rest) pos) (tm X.K X.mg WW wb)) : PE X (.BoolOp .Or (a :: b :: rest) pos) (tm X.K X.mg WW (wOr wa wb)) :=
  PE.conv (pe_or ha hb) fun σ H Q q => tm_bind q fun d v φ ρ S H1 r h => by
    obtain ⟨k, rfl, h⟩ := h.pB r
    refine ⟨k, rfl, ?_⟩
    cases k with
    | true => exact h.ret RD.bl
    | false => exact h.tm
theorem se_not (ha : PE X a (tm X.K X.mg WW wa)) : PE X (.UnaryOp .Not a pos) (tm X.K X.mg WW (wNot wa)) :=
  PE.conv (pe_not ha) fun σ H Q q => tm_bind q fun d v φ ρ S H1 r h => by
    obtain ⟨k, rfl, h⟩ := h.pB r
    exact ⟨k, rfl, h.ret RD.bl⟩
theorem st_one {op : BoolOp} (h : PT X a (ttm X.K X.mg WW wa)) : PW X (.BoolOp op [a] pos) (ttm X.K X.mg WW wa) := by
  cases op with
  | And => exact pw_and1 h
  | Or => exact pw_or1 h
theorem PW.conv {X : Cx} {e : Expr} {t u : TT} (h : PW X e t) (q : ∀ σ H Q, u σ H Q → t σ H Q) : PW X e u := ⟨fun wh pins s σ H Q I hw => h.run wh pins s σ H Q I (q σ H Q hw)⟩
theorem st_and (ha : PT X a (ttm X.K X.mg WW wa)) (hb : PW X (.BoolOp .And (b :: rest) pos) (ttm X.K X.mg WW wb)) : PW X (.BoolOp .And (a :: b :: rest) pos) (ttm X.K X.mg WW (wAnd wa wb)) :=
  PW.conv (pw_and ha hb) fun σ H Q q => tm_bind q fun d v φ ρ S H1 r h => by
    obtain ⟨k, rfl, h⟩ := h.pB r
    refine ⟨k, rfl, ?_⟩
    cases k with
    | true => exact h.tm
    | false =>
      obtain ⟨k, e, z⟩ := h.ret RD.bl
      cases e
      exact z
theorem st_or (ha : PT X a (ttm X.K X.mg WW wa)) (hb : PW X (.BoolOp .Or (b :: rest) pos) (ttm X.K X.mg WW wb)) : PW X (.BoolOp .Or (a :: b :: rest) pos) (ttm X.K X.mg WW (wOr wa wb)) :=
  PW.conv (pw_or ha hb) fun σ H Q q => tm_bind q fun d v φ ρ S H1 r h => by
    obtain ⟨k, rfl, h⟩ := h.pB r
    refine ⟨k, rfl, ?_⟩
    cases k with
    | true =>
      obtain ⟨k, e, z⟩ := h.ret RD.bl
      cases e
      exact z
    | false => exact h.tm
theorem st_not (ha : PT X a (ttm X.K X.mg WW wa)) : PT X (.UnaryOp .Not a pos) (ttm X.K X.mg WW (wNot wa)) :=
  PT.conv (pt_not ha) fun σ H Q q => tm_bind q fun d v φ ρ S H1 r h => by
    obtain ⟨k, rfl, h⟩ := h.pB r
    obtain ⟨k', e, z⟩ := h.ret RD.bl
    cases e
    exact ⟨k, rfl, z⟩
theorem tChain_of {p p' : D → D → W} {r r' : R2} (h : Pr2 X.K X.mg WW p r) (h' : Pr2 X.K X.mg WW p' r') (σ : L2.St) (H : Hp) (Q : VK) (q : tm X.K X.mg WW (wChain p p' wa wb wc) σ H Q) :
    tChain r r' (tm X.K X.mg WW wa) (tm X.K X.mg WW wb) (tm X.K X.mg WW wc) σ H Q := by
  refine tm_bind q fun d v φ ρ S H1 r1 h1 => ?_
  obtain ⟨rs, re, Q1, E1, w1, n1, x1⟩ := h1.bind
  refine ⟨φ, ρ, S, rs, re, Q1, E1, w1, fun d2 S2 h2 v2 φ2 H2 e2 rs2 rd2 => ?_, x1⟩
  obtain ⟨d2, φ2, S2, e2, rd2, q2⟩ := n1 d2 S2 h2 v2 φ2 H2 e2 rs2 rd2
  have q3 := q2.bind
  refine h φ2 ρ S2 σ H2 _ d d2 v v2 (r1.mono e2) rd2 ?_
  obtain ⟨rs3, re3, Q3, E3, w3, n3, x3⟩ := q3
  refine ⟨rs3, re3, Q3, E3, w3, fun d4 S4 h4 v4 φ4 H4 e4 rs4 rd4 => ?_, x3⟩
  obtain ⟨d4, φ4, S4, e4, rd4, q4⟩ := n3 d4 S4 h4 v4 φ4 H4 e4 rs4 rd4
  obtain ⟨k, rfl, h5⟩ := q4.pB rd4
  refine ⟨k, rfl, ?_⟩
  cases k with
  | true =>
    obtain ⟨rs5, re5, Q5, E5, w5, n5, x5⟩ := (show tmA X.K X.mg WW φ4 ρ S4 (bindW wc fun z => p' d2 z) σ H4 Q from h5).bind
    refine ⟨φ4, ρ, S4, rs5, re5, Q5, E5, w5, fun d6 S6 h6 v6 φ6 H6 e6 rs6 rd6 => ?_, x5⟩
    obtain ⟨d6, φ6, S6, e6, rd6, q6⟩ := n5 d6 S6 h6 v6 φ6 H6 e6 rs6 rd6
    exact h' φ6 ρ S6 σ H6 Q d2 d6 v2 v6 ((rd2.mono e4).mono e6) rd6 q6
  | false => exact h5.ret RD.bl
theorem se_chain {op op' : CmpOp} {p p' : D → D → W} {r r' : R2} (ho : OpR X (compareOp op) r) (ho' : OpR X (compareOp op') r') (h : Pr2 X.K X.mg WW p r) (h' : Pr2 X.K X.mg WW p' r')
    (ha : PE X a (tm X.K X.mg WW wa)) (hb : PE X b (tm X.K X.mg WW wb)) (hc : PE X c (tm X.K X.mg WW wc)) (hm : lastMarks [op, op'] [b, c] = false := by with_unfolding_all rfl) :
    PE X (.Compare a [op, op'] [b, c] pos) (tm X.K X.mg WW (wChain p p' wa wb wc)) := PE.conv (pe_chain ho ho' ha hb hc hm) (tChain_of h h')
theorem st_chain {op op' : CmpOp} {p p' : D → D → W} {r r' : R2} (ho : OpR X (compareOp op) r) (ho' : OpR X (compareOp op') r') (h : Pr2 X.K X.mg WW p r) (h' : Pr2 X.K X.mg WW p' r')
    (ha : PE X a (tm X.K X.mg WW wa)) (hb : PE X b (tm X.K X.mg WW wb)) (hc : PE X c (tm X.K X.mg WW wc)) (hm : lastMarks [op, op'] [b, c] = false := by with_unfolding_all rfl) :
    PT X (.Compare a [op, op'] [b, c] pos) (ttm X.K X.mg WW (wChain p p' wa wb wc)) := PT.conv (pt_chain ho ho' ha hb hc hm) fun σ H Q q => tChain_of h h' σ H _ q

/-! ### argument lists -/
theorem sa_nil : PA X [] (tma X.K X.mg WW []) := PA.conv pa_nil fun σ H Q ⟨φ, ρ, S, rs, re, Q', E', hw, hn, hx⟩ => hn [] S hw [] φ H Ext.refl rs RDs.nil
theorem sa_cons (ha : PE X e (tm X.K X.mg WW wa)) (hr : PA X es (tma X.K X.mg WW ws)) (hs : starEach (e :: es) X.env = (false, eval e X.env) :: starEach es X.env := by rfl) : PA X (e :: es) (tma X.K X.mg WW (wa :: ws)) := by
  refine PA.conv (pa_cons ha hr hs) fun σ H Q ⟨φ, ρ, S, rs, re, Q', E', hw, hn, hx⟩ => ?_
  refine ⟨φ, ρ, S, rs, re, _, E', hw, fun d S1 h1 v φ1 H1 e1 rs1 rd1 => ?_, hx⟩
  refine ⟨φ1, ρ, S1, rs1, re.mono e1, _, E', h1, fun ds S2 h2 vs φ2 H2 e2 rs2 rd2 => ?_, fun c ρ2 S2 h2 u φ2 H2 σ2 y rs2 re2 m => hx c ρ2 S2 h2 u φ2 H2 σ2 (e1.trans y) rs2 re2 m⟩
  exact hn _ _ h2 _ _ _ (e1.trans e2) rs2 (RDs.cons (rd1.mono e2) rd2)
theorem se_tup {k : Nat} (h : PA X es (tma X.K X.mg WW ws)) : PE X (.Tuple es k pos) (tm X.K X.mg WW (wTup ws)) := by
  refine PE.conv (pe_tup h) fun σ H Q ⟨φ, ρ, S, rs, re, Q', E', hw, hn, hx⟩ => ?_
  refine ⟨φ, ρ, S, rs, re, _, E', hw, fun ds S1 ⟨hl, h1⟩ vs φ1 H1 e1 rs1 rd1 => ?_, hx⟩
  refine ⟨by rw [← rd1.length]; exact Nat.le_of_lt (small1000 hl), fun p hp => ?_⟩
  exact mk_tup rs1 rd1 (fun d S' a v φ' H' x => hn d S' a v φ' H' (e1.trans x)) h1 p hp
theorem se_lst (h : PA X es (tma X.K X.mg WW ws)) : PE X (.List es pos) (tm X.K X.mg WW (wLst ws)) := by
  refine PE.conv (pe_lst h) fun σ H Q ⟨φ, ρ, S, rs, re, Q', E', hw, hn, hx⟩ => ?_
  refine ⟨φ, ρ, S, rs, re, _, E', hw, fun ds S1 ⟨hl, h1⟩ vs φ1 H1 e1 rs1 rd1 => ?_, hx⟩
  refine ⟨by rw [← rd1.length]; exact Nat.le_of_lt (small1000 hl), fun p hp => ?_⟩
  exact mk_list rs1 rd1 (Nat.le_of_lt (small1000 hl)) (fun d S' a v φ' H' x => hn d S' a v φ' H' (e1.trans x)) h1 p hp

/-! ### calls of the text's own defs -/
def spOf (K : PySem.W.Frag) (mg : Str → Option Value) (sp : SPf) : Sp := fun vs H Q E => ∃ φ S ds, RS K mg φ S H ∧ RDs K φ H ds vs ∧ ∃ (Q' : PQ) (E' : Str → Store → Prop), sp ds S Q' E' ∧
  (∀ d S', Q' d S' → ∀ v φ' H', Ext φ H φ' H' → RS K mg φ' S' H' → RD K φ' H' d v → Q v H') ∧
  (∀ c S', E' c S' → ∀ u φ' H', Ext φ H φ' H' → RS K mg φ' S' H' → mg c = some u → E u none H')
/-- the default values -/
def flatD : D → V → Prop := fun d v => ∀ K φ H, RD K φ H d v
theorem flats {K : PySem.W.Frag} {φ : List Addr} {H : Hp} : ∀ {ds : List D} {vs : List V}, Paired flatD ds vs → RDs K φ H ds vs
  | _, _, .nil => RDs.nil
  | _, _, .cons h t => RDs.cons (h K φ H) (flats t)
theorem se_call {k : Nat} {f : Addr} {fd : FuncData} {ps : List Str} {sp : SPf} {dfl : List D} {dvs : List V} {ds : List Value} {x : Str} {p : Pos} (F : FnOk X.prog X.w X.K X.mg X.base (L2.CX X.prog X.w) k f fd ps (spOf X.K X.mg sp)) (hr : Room k X.A) (hg : Gl X x) (hm : X.mg x = some (.ref f))
    (hk : PySem.W.keepIn X.K (.ref f) = true) (hb : Binds X.K fd ps ds) (hd : Vals dvs ds) (hf : Paired flatD dfl dvs) (tk : Takes X WW) (ha : PA X (e :: es) (tma X.K X.mg WW ws)) (hdb : (x == ("__debug__" : Str)) = false := by decide)
    (he : starEach (e :: es) X.env = (false, eval e X.env) :: starEach es X.env := by rfl) (hpl : (backTo pos (starEach es X.env)).any (·.1) = false := by rfl) : PE X (.Call (.Name x p) (e :: es) [] pos) (tm X.K X.mg WW (wCall sp ws dfl)) := by
  refine PE.conv (pe_callSD F hr hg hm hk hb hd (E := WE WW) (fun σ => passAt tk σ) ha hdb he hpl) fun σ H Q ⟨φ, ρ, S, rs, re, Q', E', hw, hn, hx⟩ => ?_
  refine ⟨φ, ρ, S, rs, re, _, E', hw, fun ds S1 h1 vs φ1 H1 e1 rs1 rd1 => ?_, hx⟩
  refine ⟨φ1, S1, _, rs1, rd1.append (flats hf), _, _, h1, fun d S2 h2 v φ2 H2 e2 rs2 rd2 => hn d S2 h2 v φ2 H2 (e1.trans e2) rs2 rd2, fun c S2 h2 u φ2 H2 e2 rs2 m => ?_⟩
  exact hx c ρ S2 h2 u φ2 H2 σ (e1.trans e2) rs2 (re.mono (e1.trans e2)) m

/-! ### calls of built-ins -/
def PrB (K : PySem.W.Frag) (mg : Str → Option Value) (WW : WX) (b : BPf) (r : List V → Hp → VK → Prop) : Prop := ∀ φ ρ S σ H Q ds vs, RDs K φ H ds vs → tmA K mg WW φ ρ S (b ds) σ H Q → r vs H Q
theorem tCB_of {bf : BPf} {r : List V → Hp → VK → Prop} (h : PrB X.K X.mg WW bf r) (σ : L2.St) (H : Hp) (Q : VK) (q : tm X.K X.mg WW (wB bf ws) σ H Q) : tCB r (tma X.K X.mg WW ws) σ H Q := by
  obtain ⟨φ, ρ, S, rs, re, Q', E', hw, hn, hx⟩ := q
  refine ⟨φ, ρ, S, rs, re, _, E', hw, fun ds S1 h1 vs φ1 H1 e1 rs1 rd1 => ?_, hx⟩
  exact h φ1 ρ S1 σ H1 Q ds vs rd1 ⟨rs1, re.mono e1, Q', E', h1, fun d S2 h2 v φ2 H2 e2 rs2 rd2 => hn d S2 h2 v φ2 H2 (e1.trans e2) rs2 rd2, fun c ρ2 S2 h2 u φ2 H2 σ2 y rs2 re2 m => hx c ρ2 S2 h2 u φ2 H2 σ2 (e1.trans y) rs2 re2 m⟩
theorem se_callB {bf : BPf} {r : List V → Hp → VK → Prop} {id : String} {x : Str} {p : Pos} (hc : CallR X (.builtin id) r) (h : PrB X.K X.mg WW bf r) (hg : Gl X x) (hm : X.mg x = none) (hv : bootBuiltins x = some (.builtin id)) (ha : PA X (e :: es) (tma X.K X.mg WW ws)) (hn : x ≠ "__name__" := by decide) (hdb : (x == ("__debug__" : Str)) = false := by decide)
    (he : starEach (e :: es) X.env = (false, eval e X.env) :: starEach es X.env := by rfl) (hpl : (backTo pos (starEach es X.env)).any (·.1) = false := by rfl) : PE X (.Call (.Name x p) (e :: es) [] pos) (tm X.K X.mg WW (wB bf ws)) :=
  PE.conv (pe_callB hc hg hm hv ha hn hdb he hpl) (tCB_of h)
theorem se_callTy {bf : BPf} {r : List V → Hp → VK → Prop} {id : String} {x : Str} {p : Pos} (hc : CallR X (.type id) r) (h : PrB X.K X.mg WW bf r) (hg : Gl X x) (hm : X.mg x = none) (hv : bootBuiltins x = some (.type id)) (ha : PA X (e :: es) (tma X.K X.mg WW ws)) (hn : x ≠ "__name__" := by decide) (hdb : (x == ("__debug__" : Str)) = false := by decide)
    (he : starEach (e :: es) X.env = (false, eval e X.env) :: starEach es X.env := by rfl) (hpl : (backTo pos (starEach es X.env)).any (·.1) = false := by rfl) : PE X (.Call (.Name x p) (e :: es) [] pos) (tm X.K X.mg WW (wB bf ws)) :=
  PE.conv (pe_callTy hc hg hm hv ha hn hdb he hpl) (tCB_of h)
end

/-! ### statements -/
def wsNil : WS := fun ρ S D _ => D.nx ρ S
def wsSeq (a b : WS) : WS := fun ρ S D E => a ρ S ⟨fun ρ1 S1 => b ρ1 S1 D E, D.rt⟩ E
def wsSet (i : Nat) (w : W) : WS := fun ρ S D E => w ρ S (fun d S1 => D.nx (ρ.set i (some d)) S1) E
def wsExpr (w : W) : WS := fun ρ S D E => w ρ S (fun _ S1 => D.nx ρ S1) E
def wsRet (w : W) : WS := fun ρ S D E => w ρ S D.rt E
def wsRetN : WS := fun _ S D _ => D.rt .non S
def wsIf (c : W) (a b : WS) : WS := fun ρ S D E => c ρ S (fun d S1 => ∃ k, d = .bl k ∧ if k = true then a ρ S1 D E else b ρ S1 D E) E
/-- a target -/
abbrev Tg := D → DEnv → (DEnv → Prop) → Prop
def tN (i : Nat) : Tg := fun d ρ k => k (ρ.set i (some d))
def setAll : DEnv → List Nat → List D → DEnv
  | ρ, i :: is, d :: ds => setAll (ρ.set i (some d)) is ds
  | ρ, _, _ => ρ
def tT (is : List Nat) : Tg := fun d ρ k => ∃ ds, d = .tup ds ∧ ds.length = is.length ∧ k (setAll ρ is ds)
def wsAsg (b : Tg) (w : W) : WS := fun ρ S D E => w ρ S (fun d S1 => b d ρ fun ρ1 => D.nx ρ1 S1) E
/-- o[i] = e for a list -/
def wsSub (o i e : W) : WS := fun ρ S D E => e ρ S (fun d S1 => o ρ S1 (fun x S2 => i ρ S2 (fun y S3 => ∃ n k xs j, x = .ref n ∧ y = .int k ∧ S3[n]? = some (.lst xs) ∧ ixN xs.length k = some j ∧ D.nx ρ (S3.set n (.lst (xs.set j d)))) E) E) E
def loopG (st : Store → Prop) (b : Tg) (body : WS) : List D → WS
  | [], ρ, S, D, _ => st S ∧ D.nx ρ S
  | x :: xs, ρ, S, D, E => st S ∧ b x ρ fun ρ1 => body ρ1 S ⟨fun ρ2 S2 => loopG st b body xs ρ2 S2 D E, D.rt⟩ E
def atL (n : Nat) (ds : List D) (S : Store) : Prop := S[n]? = some (.lst ds)
/-- for x in a list -/
def wsFor (b : Tg) (w : W) (body : WS) : WS := fun ρ S D E => w ρ S (fun d S1 => ∃ n ds, d = .ref n ∧ atL n ds S1 ∧ loopG (atL n ds) b body ds ρ S1 D E) E
/-- for x in a tuple -/
def wsForT (b : Tg) (w : W) (body : WS) : WS := fun ρ S D E => w ρ S (fun d S1 => ∃ ds, d = .tup ds ∧ loopG (fun _ => True) b body ds ρ S1 D E) E
def rangeD (lo : Int) (n : Nat) : List D := (List.range n).map fun k => .int (lo + (k : Nat))
def wsForR1 (b : Tg) (w : W) (body : WS) : WS := fun ρ S D E => w ρ S (fun d S1 => ∃ j : Int, d = .int j ∧ -(2 ^ 62) ≤ j ∧ j < 2 ^ 62 ∧ loopG (fun _ => True) b body (rangeD 0 j.toNat) ρ S1 D E) E
def wsForR2 (b : Tg) (w u : W) (body : WS) : WS := fun ρ S D E => w ρ S (fun d S1 => u ρ S1 (fun e S2 => ∃ i j : Int, d = .int i ∧ e = .int j ∧ (-(2 ^ 62) ≤ i ∧ i < 2 ^ 62 ∧ -(2 ^ 62) ≤ j ∧ j < 2 ^ 62) ∧ loopG (fun _ => True) b body (rangeD i (j - i).toNat) ρ S2 D E) E) E
def whileN : Nat → W → WS → WS
  | 0, _, _ => fun _ _ _ _ => False
  | n + 1, c, body => fun ρ S D E => c ρ S (fun d S1 => ∃ k, d = .bl k ∧ if k = true then body ρ S1 ⟨fun ρ2 S2 => whileN n c body ρ2 S2 D E, D.rt⟩ E else D.nx ρ S1) E
def wsWhile (c : W) (body : WS) : WS := fun ρ S D E => ∃ n, whileN n c body ρ S D E

def tsA (K : PySem.W.Frag) (mg : Str → Option Value) (WW : WX) (φ : List Addr) (ρ : DEnv) (S : Store) (w : WS) (D : Ends) (σ : L2.St) (H : Hp) : Prop :=
  RS K mg φ S H ∧ RE K φ H ρ σ ∧ ∃ (D' : DEnds) (E' : PX), w ρ S D' E' ∧
    (∀ ρ' S', D'.nx ρ' S' → ∀ σ' φ' H', Ext φ H φ' H' → RS K mg φ' S' H' → RE K φ' H' ρ' σ' → D.nx σ' H') ∧
    (∀ d S', D'.rt d S' → ∀ v φ' H', Ext φ H φ' H' → RS K mg φ' S' H' → RD K φ' H' d v → D.rt v H') ∧
    (∀ c ρ' S', E' c ρ' S' → ∀ u φ' H' σ', Ext φ H φ' H' → RS K mg φ' S' H' → RE K φ' H' ρ' σ' → mg c = some u → WW u none σ' H')
def tsm (K : PySem.W.Frag) (mg : Str → Option Value) (WW : WX) (w : WS) : TS := fun D σ H => ∃ φ ρ S, tsA K mg WW φ ρ S w D σ H
section
variable {K : PySem.W.Frag} {mg : Str → Option Value} {WW : WX}
/-- an expression ahead of what follows -/
theorem ts_ex {w : W} {k : GS.D → WS} {φ : List Addr} {ρ : DEnv} {S : Store} {D : Ends} {σ : L2.St} {H : Hp} (q : tsA K mg WW φ ρ S (fun ρ S D E => w ρ S (fun d S1 => k d ρ S1 D E) E) D σ H) {R : VK}
    (h : ∀ d v φ1 S1 H1, Ext φ H φ1 H1 → RD K φ1 H1 d v → tsA K mg WW φ1 ρ S1 (k d) D σ H1 → R v H1) : tm K mg WW w σ H R := by
  obtain ⟨rs, re, D', E', hw, hn, hr, hx⟩ := q
  refine ⟨φ, ρ, S, rs, re, _, E', hw, fun d S1 h1 v φ1 H1 e1 rs1 rd1 => ?_, hx⟩
  exact h d v φ1 S1 H1 e1 rd1 ⟨rs1, re.mono e1, D', E', h1, fun ρ2 S2 a σ2 φ2 H2 x => hn ρ2 S2 a σ2 φ2 H2 (e1.trans x), fun d S2 a v φ2 H2 x => hr d S2 a v φ2 H2 (e1.trans x),
    fun c ρ2 S2 a u φ2 H2 σ2 x => hx c ρ2 S2 a u φ2 H2 σ2 (e1.trans x)⟩
theorem ts_ex0 {w : W} {k : GS.D → WS} {D : Ends} {σ : L2.St} {H : Hp} (q : tsm K mg WW (fun ρ S D E => w ρ S (fun d S1 => k d ρ S1 D E) E) D σ H) {R : VK}
    (h : ∀ d v φ1 ρ S1 H1, RD K φ1 H1 d v → tsA K mg WW φ1 ρ S1 (k d) D σ H1 → R v H1) : tm K mg WW w σ H R := by
  obtain ⟨φ, ρ, S, q⟩ := q
  exact ts_ex q fun d v φ1 S1 H1 _ rd q => h d v φ1 ρ S1 H1 rd q
end
/-- a target's rule -/
structure SG (X : Cx) (tg : Expr) (b : Tg) (g : TG) : Prop where
  pg : PG X tg g
  of : ∀ φ ρ σ H d v (k : DEnv → Prop) (Q : L2.St → Hp → Prop), RE X.K φ H ρ σ → RD X.K φ H d v → b d ρ k → (∀ ρ' σ', k ρ' → RE X.K φ H ρ' σ' → Q σ' H) → g v σ H Q
section
variable {X : Cx} {WW : WX} {a b c e : Expr} {es rest : List Expr} {pos pos' : Pos} {wa wb wc w : W} {ws : List W} {st : Stmt} {sts body : List Stmt} {u v : WS}
theorem ss_nil : PSs X [] (tsm X.K X.mg WW wsNil) := PSs.conv pss_nil fun D σ H ⟨φ, ρ, S, rs, re, D', E', hw, hn, hr, hx⟩ => hn ρ S hw σ φ H Ext.refl rs re
theorem ss_cons (h1 : PS X st (tsm X.K X.mg WW u)) (h2 : PSs X sts (tsm X.K X.mg WW v)) : PSs X (st :: sts) (tsm X.K X.mg WW (wsSeq u v)) := by
  refine PSs.conv (pss_cons h1 h2) fun D σ H ⟨φ, ρ, S, rs, re, D', E', hw, hn, hr, hx⟩ => ?_
  refine ⟨φ, ρ, S, rs, re, _, E', hw, fun ρ1 S1 h1 σ1 φ1 H1 e1 rs1 re1 => ?_, hr, hx⟩
  exact ⟨φ1, ρ1, S1, rs1, re1, D', E', h1, fun ρ2 S2 a σ2 φ2 H2 x => hn ρ2 S2 a σ2 φ2 H2 (e1.trans x), fun d S2 a v φ2 H2 x => hr d S2 a v φ2 H2 (e1.trans x),
    fun c ρ2 S2 a u φ2 H2 σ2 x => hx c ρ2 S2 a u φ2 H2 σ2 (e1.trans x)⟩
theorem ss_one (h1 : PS X st (tsm X.K X.mg WW u)) : PSs X [st] (tsm X.K X.mg WW u) := pss_one h1
theorem sg_name {i : Nat} {x : Str} {p : Pos} (hN : X.N.Nodup) (hi : X.N[i]? = some x) (hx : Loc X.env.scope x) (hf : X.fn x = true ∨ X.env.scope.names.lookup x = some .local := by first | exact .inl rfl | exact .inr rfl | assumption) : SG X (.Name x p) (tN i) (gName i) :=
  ⟨pg_name hN hi hx hf, fun φ ρ σ H d v k Q re rd h q => q _ _ h (re.set rd i)⟩
def gNames : List Nat → TGs
  | [] => gNil
  | i :: is => gCons (gName i) (gNames is)
theorem gNames_of {K : PySem.W.Frag} {φ : List Addr} {H : Hp} {Q : L2.St → Hp → Prop} {k : DEnv → Prop} (q : ∀ ρ' σ', k ρ' → RE K φ H ρ' σ' → Q σ' H) : ∀ {is : List Nat} {ds : List D} {vs : List V} {ρ : DEnv} {σ : L2.St}, RE K φ H ρ σ → RDs K φ H ds vs → ds.length = is.length → k (setAll ρ is ds) → gNames is vs σ H Q
  | [], [], vs, ρ, σ, re, r, _, hk => by
    have : vs = [] := by simpa [RDs] using r
    subst this
    exact ⟨rfl, q _ _ hk re⟩
  | [], _ :: _, _, _, _, _, _, hl, _ => by simp at hl
  | _ :: _, [], _, _, _, _, _, hl, _ => by simp at hl
  | i :: is, d :: ds, vs, ρ, σ, re, r, hl, hk => by
    obtain ⟨v, r', rfl, h1, h2⟩ := r.inv
    exact ⟨v, r', rfl, gNames_of q (re.set h1 i) h2 (by simpa using hl) hk⟩
theorem sg_tup {is : List Nat} {k n : Nat} {p : Pos} (hc : X.calm = true) (h : PGs X es (gNames is)) (hl : is.length = n := by rfl)
    (hn : (assignEach es X.env).length = n := by rfl) (hst : (assignEach es X.env).findIdx? (·.1) = none := by rfl) : SG X (.Tuple es k p) (tT is) (gTup X.K n (gNames is)) := by
  refine ⟨pg_tup hc h hn hst, fun φ ρ σ H d v k Q re rd ⟨ds, e, l, hk⟩ q => ?_⟩
  subst e
  simp only [RD] at rd
  obtain ⟨a, vs, rfl, ha, r⟩ := rd
  exact ⟨a, vs, rfl, SqT.of ha, by rw [← r.length, l, hl], gNames_of q re r l hk⟩
theorem ss_set {i : Nat} {x : Str} {p : Pos} (hN : X.N.Nodup) (hi : X.N[i]? = some x) (hx : Loc X.env.scope x) (he : PE X e (tm X.K X.mg WW w)) (hs : swapsWith e (some (.Name x p)) pos.line X.env = pure false := by rfl)
    (hf : X.fn x = true ∨ X.env.scope.names.lookup x = some .local := by first | exact .inl rfl | exact .inr rfl | assumption) : PS X (.Assign [.Name x p] e pos) (tsm X.K X.mg WW (wsSet i w)) :=
  PS.conv (ps_set hN hi hx he hs hf) fun D σ H q => ts_ex0 (k := fun d => fun ρ S D E => D.nx (ρ.set i (some d)) S) q fun d v φ1 ρ S1 H1 rd ⟨rs, re, D', E', hw, hn, hr, hx⟩ => hn _ _ hw _ _ _ Ext.refl rs (re.set rd i)
theorem ss_asg {b : Tg} {g : TG} {tg : Expr} (hg : SG X tg b g) (he : PE X e (tm X.K X.mg WW w)) (hs : swapsWithSole [tg] e pos.line X.env = pure false := by rfl) (hw : swappedStores [tg] e X.env = pure none := by rfl)
    (h1 : (assignEach [tg] X.env).map (·.2) = [assign tg X.env] := by rfl) : PS X (.Assign [tg] e pos) (tsm X.K X.mg WW (wsAsg b w)) :=
  PS.conv (ps_asg he hg.pg hs hw h1) fun D σ H q => ts_ex0 (k := fun d => fun ρ S D E => b d ρ fun ρ1 => D.nx ρ1 S) q fun d v φ1 ρ S1 H1 rd ⟨rs, re, D', E', hw, hn, hr, hx⟩ =>
    hg.of φ1 ρ σ H1 d v _ _ re rd hw fun ρ' σ' h re' => hn _ _ h _ _ _ Ext.refl rs re'
theorem ss_expr (he : PE X e (tm X.K X.mg WW w)) (hs : swapsWith e none pos.line X.env = pure false := by rfl) : PS X (.Expr e pos) (tsm X.K X.mg WW (wsExpr w)) :=
  PS.conv (ps_expr he hs) fun D σ H q => ts_ex0 (k := fun d => fun ρ S D E => D.nx ρ S) q fun d v φ1 ρ S1 H1 rd ⟨rs, re, D', E', hw, hn, hr, hx⟩ => hn _ _ hw _ _ _ Ext.refl rs re
theorem ss_ret (he : PE X e (tm X.K X.mg WW w)) : PS X (.Return (some e) pos) (tsm X.K X.mg WW (wsRet w)) :=
  PS.conv (ps_ret he) fun D σ H q => ts_ex0 (k := fun d => fun ρ S D E => D.rt d S) q fun d v φ1 ρ S1 H1 rd ⟨rs, re, D', E', hw, hn, hr, hx⟩ => hr _ _ hw _ _ _ Ext.refl rs rd
theorem ss_retN : PS X (.Return none pos) (tsm X.K X.mg WW wsRetN) := PS.conv ps_retN fun D σ H ⟨φ, ρ, S, rs, re, D', E', hw, hn, hr, hx⟩ => hr _ _ hw _ _ _ Ext.refl rs RD.non
theorem ss_if {b : List Stmt} (hc : PT X c (ttm X.K X.mg WW w)) (ha : PSs X body (tsm X.K X.mg WW u)) (hb : PSs X b (tsm X.K X.mg WW v)) : PS X (.If c body b pos) (tsm X.K X.mg WW (wsIf w u v)) :=
  PS.conv (ps_if hc ha hb) fun D σ H q => ts_ex0 (k := fun d => fun ρ S D E => ∃ k, d = .bl k ∧ if k = true then u ρ S D E else v ρ S D E) q fun d x φ1 ρ S1 H1 rd ⟨rs, re, D', E', ⟨k, e, hw⟩, hn, hr, hx⟩ => by
    subst e
    refine ⟨k, rd.bl_inv, ?_⟩
    cases k with
    | true => exact ⟨φ1, ρ, S1, rs, re, D', E', hw, hn, hr, hx⟩
    | false => exact ⟨φ1, ρ, S1, rs, re, D', E', hw, hn, hr, hx⟩
theorem tsA.ex {K : PySem.W.Frag} {mg : Str → Option Value} {φ : List Addr} {ρ : DEnv} {S : Store} {D : Ends} {σ : L2.St} {H : Hp} {w : W} {k : GS.D → WS} (q : tsA K mg WW φ ρ S (fun ρ S D E => w ρ S (fun d S1 => k d ρ S1 D E) E) D σ H) {R : VK}
    (h : ∀ d v φ1 S1 H1, Ext φ H φ1 H1 → RD K φ1 H1 d v → tsA K mg WW φ1 ρ S1 (k d) D σ H1 → R v H1) : tm K mg WW w σ H R := ts_ex q h
theorem ss_sub {o i : Expr} {p : Pos} {wo wi : W} (ho : PE X o (tm X.K X.mg WW wo)) (hi : PE X i (tm X.K X.mg WW wi)) (he : PE X e (tm X.K X.mg WW w))
    (ha : ∀ v, assign (.Subscript o i p) X.env v = (do
      let ov ← holding [v] (eval o X.env)
      let iv ← holding [v, ov] (eval i X.env)
      standAt p
      holding [v, ov, iv] (setItem ov iv v)
      release [v, ov, iv] []) := by intro _; rfl)
    (hs : swapsWithSole [.Subscript o i p] e pos.line X.env = pure false := by rfl) (hw : swappedStores [.Subscript o i p] e X.env = pure none := by rfl)
    (h1 : (assignEach [.Subscript o i p] X.env).map (·.2) = [assign (.Subscript o i p) X.env] := by rfl) : PS X (.Assign [.Subscript o i p] e pos) (tsm X.K X.mg WW (wsSub wo wi w)) := by
  refine PS.conv (ps_asg he (pg_sub ho hi set_list ha) hs hw h1) fun D σ H q => ?_
  refine ts_ex0 (k := fun d => fun ρ S1 D E => wo ρ S1 (fun x S2 => wi ρ S2 (fun y S3 => ∃ n k xs j, x = .ref n ∧ y = .int k ∧ S3[n]? = some (.lst xs) ∧ ixN xs.length k = some j ∧ D.nx ρ (S3.set n (.lst (xs.set j d)))) E) E) q fun d v φ1 ρ S1 H1 rd q1 => ?_
  refine tsA.ex (k := fun x => fun ρ S2 D E => wi ρ S2 (fun y S3 => ∃ n k xs j, x = .ref n ∧ y = .int k ∧ S3[n]? = some (.lst xs) ∧ ixN xs.length k = some j ∧ D.nx ρ (S3.set n (.lst (xs.set j d)))) E) q1 fun x xv φ2 S2 H2 e2 rx q2 => ?_
  refine tsA.ex (k := fun y => fun ρ S3 D E => ∃ n k xs j, x = .ref n ∧ y = .int k ∧ S3[n]? = some (.lst xs) ∧ ixN xs.length k = some j ∧ D.nx ρ (S3.set n (.lst (xs.set j d)))) q2 fun y yv φ3 S3 H3 e3 ry ⟨rs, re, D', E', ⟨n, k, xs, j, ex1, ey1, hl, hj, hw⟩, hn, hr, hx⟩ => ?_
  subst ex1 ey1
  obtain ⟨a, vs, rfl, ha, hH, r, z⟩ := rs.lst hl (rx.mono e3)
  have ex := Ext.write (o := .lst (vs.set j v)) rs (List.mem_of_getElem? ha)
  have rv := (rd.mono e2).mono e3
  refine ⟨a, vs, k, j, rfl, ry.int_inv, hH, by rw [← r.length]; exact hj, ?_⟩
  exact hn _ _ hw _ _ _ ex (rs.write ha ⟨_, upd_same, (RDs.set rv j r).mono ex, by simpa using z⟩) (re.mono ex)

/-! ### loops -/
theorem loop_at {K : PySem.W.Frag} {mg : Str → Option Value} {φ : List Addr} {ρ : DEnv} {S : Store} {D : Ends} {σ : L2.St} {H : Hp} {stb : Store → Prop} {b : Tg} {bd : WS} {x : GS.D} {xs : List GS.D} {g : TG} {tg : Expr} (hg : SG X tg b g) {y : V}
    (q : tsA X.K X.mg WW φ ρ S (loopG stb b bd (x :: xs)) D σ H) (r : RD X.K φ H x y) {N : L2.St → Hp → Prop} (hN : ∀ σ' H' φ' ρ' S', Ext φ H φ' H' → tsA X.K X.mg WW φ' ρ' S' (loopG stb b bd xs) D σ' H' → N σ' H') :
    g y σ H fun σ2 H2 => tsm X.K X.mg WW bd { D with nx := N, ct := N, bk := D.nx } σ2 H2 := by
  obtain ⟨rs, re, D', E', ⟨hs, hw⟩, hn, hr, hx⟩ := q
  refine hg.of φ ρ σ H x y _ _ re r hw fun ρ1 σ1 h1 re1 => ?_
  refine ⟨φ, ρ1, S, rs, re1, _, E', h1, fun ρ2 S2 h2 σ2 φ2 H2 e2 rs2 re2 => ?_, hr, hx⟩
  exact hN σ2 H2 φ2 ρ2 S2 e2 ⟨rs2, re2, D', E', h2, fun ρ3 S3 a σ3 φ3 H3 x => hn ρ3 S3 a σ3 φ3 H3 (e2.trans x), fun d S3 a v φ3 H3 x => hr d S3 a v φ3 H3 (e2.trans x),
    fun c ρ3 S3 a u φ3 H3 σ3 x => hx c ρ3 S3 a u φ3 H3 σ3 (e2.trans x)⟩
theorem loop_end {φ : List Addr} {ρ : DEnv} {S : Store} {D : Ends} {σ : L2.St} {H : Hp} {stb : Store → Prop} {b : Tg} {bd : WS} (q : tsA X.K X.mg WW φ ρ S (loopG stb b bd []) D σ H) : D.nx σ H := by
  obtain ⟨rs, re, D', E', ⟨hs, hw⟩, hn, hr, hx⟩ := q
  exact hn ρ S hw σ φ H Ext.refl rs re
theorem loop_st {K : PySem.W.Frag} {mg : Str → Option Value} {φ : List Addr} {ρ : DEnv} {S : Store} {D : Ends} {σ : L2.St} {H : Hp} {stb : Store → Prop} {b : Tg} {bd : WS} : ∀ {xs : List GS.D}, tsA K mg WW φ ρ S (loopG stb b bd xs) D σ H → RS K mg φ S H ∧ stb S
  | [], ⟨rs, _, _, _, ⟨hs, _⟩, _⟩ => ⟨rs, hs⟩
  | _ :: _, ⟨rs, _, _, _, ⟨hs, _⟩, _⟩ => ⟨rs, hs⟩
theorem drop_cons {α : Type} {xs : List α} {i : Nat} {x : α} (h : xs[i]? = some x) : xs.drop i = x :: xs.drop (i + 1) := by
  obtain ⟨hi, e⟩ := List.getElem?_eq_some_iff.mp h
  rw [List.drop_eq_getElem_cons hi, e]
theorem ss_for {b : Tg} {g : TG} {tg : Expr} (hp : PassesOwn (model X.prog X.w) X.A X.env X.xe) (hc : X.calm = true) (hg : SG X tg b g) (he : PE X e (tm X.K X.mg WW w)) (hb : PSs X body (tsm X.K X.mg WW u))
    (hs : ∀ x, foldedSetIterable e X.env x = pure x := by intro _; rfl) : PS X (.For tg e body [] pos) (tsm X.K X.mg WW (wsFor b w u)) := by
  refine PS.conv (ps_for hp hc (pi_list he) hg.pg hb hs) fun D σ H q => ?_
  refine ts_ex0 (k := fun d => fun ρ S D E => ∃ n ds, d = .ref n ∧ atL n ds S ∧ loopG (atL n ds) b u ds ρ S D E) q fun d v φ1 ρ S1 H1 rd ⟨rs, re, D', E', ⟨n, ds, e1, hl, hw⟩, hn, hr, hx⟩ => ?_
  subst e1
  obtain ⟨a, vs, rfl, ha, hH, r, z⟩ := rs.lst hl rd
  refine ⟨a, rfl, ⟨vs, SqL.of hH⟩, ?_⟩
  refine ⟨fun i m σ' H' => m = ds.length - i ∧ ∃ φ' ρ' S', Ext φ1 H1 φ' H' ∧ tsA X.K X.mg WW φ' ρ' S' (loopG (atL n ds) b u (ds.drop i)) D σ' H', ⟨_, rfl, φ1, ρ, S1, Ext.refl, rs, re, D', E', by simpa using hw, hn, hr, hx⟩, ?_⟩
  rintro i m σ' H' ⟨rfl, φ', ρ', S', e', q'⟩
  obtain ⟨rs', hs'⟩ := loop_st q'
  obtain ⟨a2, vs2, e2, ha2, hH2, r2, _⟩ := rs'.lst hs' (rd.mono e')
  cases e2
  by_cases hi : i < ds.length
  · have hd : ds[i]? = some ds[i] := List.getElem?_eq_getElem hi
    obtain ⟨y, hy, ry⟩ := r2.get hd
    refine .inr ⟨⟨vs2, y, SqL.of hH2, hy⟩, fun σ2 H2 => ∃ φ2 ρ2 S2, Ext φ1 H1 φ2 H2 ∧ tsA X.K X.mg WW φ2 ρ2 S2 (loopG (atL n ds) b u (ds.drop (i + 1))) D σ2 H2, fun σ2 H2 ⟨φ2, ρ2, S2, e2, q2⟩ => ⟨ds.length - (i + 1), by omega, rfl, φ2, ρ2, S2, e2, q2⟩, fun x H2 hx2 => ?_⟩
    obtain ⟨rfl, fx⟩ := hx2
    have ex : x = y := Option.some.inj ((fx _ (SqL.of hH2)).symm.trans hy)
    subst ex
    rw [drop_cons hd] at q'
    exact loop_at (K := X.K) (mg := X.mg) hg q' ry fun σ2 H2 φ2 ρ2 S2 e2 q2 => ⟨φ2, ρ2, S2, e'.trans e2, q2⟩
  · refine .inl ⟨⟨vs2, SqL.of hH2, by rw [← r2.length]; omega⟩, ?_⟩
    rw [List.drop_of_length_le (by omega)] at q'
    exact loop_end q'
theorem ss_forT {b : Tg} {g : TG} {tg : Expr} (hp : PassesOwn (model X.prog X.w) X.A X.env X.xe) (hc : X.calm = true) (hg : SG X tg b g) (he : PE X e (tm X.K X.mg WW w)) (hb : PSs X body (tsm X.K X.mg WW u))
    (hs : ∀ x, foldedSetIterable e X.env x = pure x := by intro _; rfl) : PS X (.For tg e body [] pos) (tsm X.K X.mg WW (wsForT b w u)) := by
  refine PS.conv (ps_for hp hc (pi_tup he) hg.pg hb hs) fun D σ H q => ?_
  refine ts_ex0 (k := fun d => fun ρ S D E => ∃ ds, d = .tup ds ∧ loopG (fun _ => True) b u ds ρ S D E) q fun d v φ1 ρ S1 H1 rd ⟨rs, re, D', E', ⟨ds, e1, hw⟩, hn, hr, hx⟩ => ?_
  subst e1
  simp only [RD] at rd
  obtain ⟨a, vs, rfl, hH, r⟩ := rd
  refine ⟨a, rfl, ⟨vs, SqT.of hH⟩, ?_⟩
  refine for_tup (xs := vs) (fun i σ' H' => ∃ φ' ρ' S', Ext φ1 H1 φ' H' ∧ tsA X.K X.mg WW φ' ρ' S' (loopG (fun _ => True) b u (ds.drop i)) D σ' H') ⟨φ1, ρ, S1, Ext.refl, rs, re, D', E', by simpa using hw, hn, hr, hx⟩ ?_ ?_ ?_
  · rintro i σ' H' _ ⟨φ', ρ', S', e', q'⟩
    exact SqT.of (e'.im _ _ hH fun z => z)
  · rintro i x σ' H' hi ⟨φ', ρ', S', e', q'⟩
    obtain ⟨d, hd, rx⟩ := r.getV hi
    rw [drop_cons hd] at q'
    exact loop_at (K := X.K) (mg := X.mg) hg q' (rx.mono e') fun σ2 H2 φ2 ρ2 S2 e2 q2 => ⟨φ2, ρ2, S2, e'.trans e2, q2⟩
  · rintro σ' H' ⟨φ', ρ', S', e', q'⟩
    rw [← r.length, List.drop_length] at q'
    exact loop_end q'
theorem rangeD_get {lo : Int} {n i : Nat} (h : i < n) : (rangeD lo n)[i]? = some (.int (lo + (i : Nat))) := by
  unfold rangeD
  rw [List.getElem?_map, List.getElem?_range h]; rfl
theorem rangeD_length (lo : Int) (n : Nat) : (rangeD lo n).length = n := by
  unfold rangeD; simp
theorem range_loop {φ1 : List Addr} {ρ : DEnv} {S1 : Store} {D : Ends} {σ : L2.St} {H1 : Hp} {b : Tg} {g : TG} {tg : Expr} {lo : Int} {n : Nat} (hg : SG X tg b g) (q : tsA X.K X.mg WW φ1 ρ S1 (loopG (fun _ => True) b u (rangeD lo n)) D σ H1) :
    ∃ W : Nat → Nat → L2.St → Hp → Prop, (∃ m, W 0 m σ H1) ∧ ∀ i m σ H, W i m σ H →
      ((Itr lo n).stop i H ∧ D.nx σ H) ∨ ((Itr lo n).go i H ∧ ∃ N : L2.St → Hp → Prop, (∀ σ' H', N σ' H' → ∃ m', m' < m ∧ W (i + 1) m' σ' H') ∧ ∀ x H', (Itr lo n).yld i H x H' → g x σ H' fun σ2 H2 => tsm X.K X.mg WW u { D with nx := N, ct := N, bk := D.nx } σ2 H2) := by
  refine for_range (fun i σ' H' => ∃ φ' ρ' S', Ext φ1 H1 φ' H' ∧ tsA X.K X.mg WW φ' ρ' S' (loopG (fun _ => True) b u ((rangeD lo n).drop i)) D σ' H') ⟨φ1, ρ, S1, Ext.refl, by simpa using q⟩ ?_ ?_
  · rintro i σ' H' hi ⟨φ', ρ', S', e', q'⟩
    rw [drop_cons (rangeD_get hi)] at q'
    exact loop_at (K := X.K) (mg := X.mg) hg q' RD.int fun σ2 H2 φ2 ρ2 S2 e2 q2 => ⟨φ2, ρ2, S2, e'.trans e2, q2⟩
  · rintro σ' H' ⟨φ', ρ', S', e', q'⟩
    rw [List.drop_of_length_le (Nat.le_of_eq (rangeD_length lo n))] at q'
    exact loop_end q'
theorem ss_forR1 {b : Tg} {g : TG} {tg : Expr} {p p2 : Pos} (hp : PassesOwn (model X.prog X.w) X.A X.env X.xe) (hc : X.calm = true) (hg : SG X tg b g) (hgl : Gl X "range") (hm : X.mg "range" = none) (he : PE X e (tm X.K X.mg WW w)) (hb : PSs X body (tsm X.K X.mg WW u))
    (hst : starEach [e] X.env = [(false, eval e X.env)] := by rfl) (hst2 : starEach [e] X.env = (false, eval e X.env) :: starEach [] X.env := by rfl) (hs : ∀ x, foldedSetIterable (.Call (.Name "range" p) [e] [] p2) X.env x = pure x := by intro _; rfl) : PS X (.For tg (.Call (.Name "range" p) [e] [] p2) body [] pos) (tsm X.K X.mg WW (wsForR1 b w u)) := by
  refine PS.conv (ps_for hp hc (pi_range1 hgl hm (pa_cons he pa_nil hst2) hst) hg.pg hb hs) fun D σ H q => ?_
  refine ts_ex0 (k := fun d => fun ρ S D E => ∃ j : Int, d = .int j ∧ -(2 ^ 62) ≤ j ∧ j < 2 ^ 62 ∧ loopG (fun _ => True) b u (rangeD 0 j.toNat) ρ S D E) q fun d v φ1 ρ S1 H1 rd ⟨rs, re, D', E', ⟨j, e1, h1, h2, hw⟩, hn, hr, hx⟩ => ?_
  subst e1
  rw [rd.int_inv]
  exact ⟨j, rfl, h1, h2, range_loop hg ⟨rs, re, D', E', hw, hn, hr, hx⟩⟩
theorem ss_forR2 {b : Tg} {g : TG} {tg : Expr} {p p2 : Pos} {wv : W} (hp : PassesOwn (model X.prog X.w) X.A X.env X.xe) (hc : X.calm = true) (hg : SG X tg b g) (hgl : Gl X "range") (hm : X.mg "range" = none) (he : PE X e (tm X.K X.mg WW w)) (ha : PE X a (tm X.K X.mg WW wv)) (hb : PSs X body (tsm X.K X.mg WW u))
    (hst : starEach [e, a] X.env = [(false, eval e X.env), (false, eval a X.env)] := by rfl) (hst2 : starEach [a] X.env = [(false, eval a X.env)] := by rfl)
    (hst3 : starEach [e, a] X.env = (false, eval e X.env) :: starEach [a] X.env := by rfl) (hst4 : starEach [a] X.env = (false, eval a X.env) :: starEach [] X.env := by rfl) (hs : ∀ x, foldedSetIterable (.Call (.Name "range" p) [e, a] [] p2) X.env x = pure x := by intro _; rfl) :
    PS X (.For tg (.Call (.Name "range" p) [e, a] [] p2) body [] pos) (tsm X.K X.mg WW (wsForR2 b w wv u)) := by
  refine PS.conv (ps_for hp hc (pi_range2 hgl hm (pa_cons he (pa_cons ha pa_nil hst4) hst3) hst hst2) hg.pg hb hs) fun D σ H q => ?_
  refine ts_ex0 (k := fun d => fun ρ S1 D E => wv ρ S1 (fun e S2 => ∃ i j : Int, d = .int i ∧ e = .int j ∧ (-(2 ^ 62) ≤ i ∧ i < 2 ^ 62 ∧ -(2 ^ 62) ≤ j ∧ j < 2 ^ 62) ∧ loopG (fun _ => True) b u (rangeD i (j - i).toNat) ρ S2 D E) E) q fun d v φ1 ρ S1 H1 rd q1 => ?_
  refine tsA.ex (k := fun e => fun ρ S2 D E => ∃ i j : Int, d = .int i ∧ e = .int j ∧ (-(2 ^ 62) ≤ i ∧ i < 2 ^ 62 ∧ -(2 ^ 62) ≤ j ∧ j < 2 ^ 62) ∧ loopG (fun _ => True) b u (rangeD i (j - i).toNat) ρ S2 D E) q1 fun d2 v2 φ2 S2 H2 e2 rd2 ⟨rs, re, D', E', ⟨i, j, e1, e2, h1, hw⟩, hn, hr, hx⟩ => ?_
  subst e1 e2
  rw [rd.int_inv, rd2.int_inv]
  exact ⟨i, j, rfl, h1, range_loop hg ⟨rs, re, D', E', hw, hn, hr, hx⟩⟩
theorem ss_while (hp : PassesOwn (model X.prog X.w) X.A X.env X.xe) (hc : PT X c (ttm X.K X.mg WW w)) (hb : PSs X body (tsm X.K X.mg WW u)) : PS X (.While c body [] pos) (tsm X.K X.mg WW (wsWhile w u)) := by
  refine PS.conv (ps_while hp hc hb) fun D σ H ⟨φ, ρ, S, rs, re, D', E', ⟨n, hw⟩, hn, hr, hx⟩ => ?_
  refine ⟨fun m σ1 H1 => ∃ φ1 ρ1 S1, tsA X.K X.mg WW φ1 ρ1 S1 (whileN m w u) D σ1 H1, ⟨n, φ, ρ, S, rs, re, D', E', hw, hn, hr, hx⟩, ?_⟩
  rintro m σ1 H1 ⟨φ1, ρ1, S1, q1⟩
  cases m with
  | zero => obtain ⟨_, _, _, _, z, _⟩ := q1; exact z.elim
  | succ m =>
    refine tsA.ex (k := fun d => fun ρ S D E => ∃ k, d = .bl k ∧ if k = true then u ρ S ⟨fun ρ2 S2 => whileN m w u ρ2 S2 D E, D.rt⟩ E else D.nx ρ S) q1 fun d v φ2 S2 H2 e2 rd ⟨rs, re, D', E', ⟨k, e, hw⟩, hn, hr, hx⟩ => ?_
    subst e
    refine ⟨k, rd.bl_inv, ?_⟩
    cases k with
    | true =>
      refine ⟨fun σ3 H3 => ∃ φ3 ρ3 S3, tsA X.K X.mg WW φ3 ρ3 S3 (whileN m w u) D σ3 H3, fun σ3 H3 h3 => ⟨m, Nat.lt_succ_self m, h3⟩, ?_⟩
      refine ⟨φ2, ρ1, S2, rs, re, _, E', hw, fun ρ3 S3 h3 σ3 φ3 H3 e3 rs3 re3 => ?_, hr, hx⟩
      exact ⟨φ3, ρ3, S3, rs3, re3, D', E', h3, fun ρ4 S4 a σ4 φ4 H4 x => hn ρ4 S4 a σ4 φ4 H4 (e3.trans x), fun d S4 a v φ4 H4 x => hr d S4 a v φ4 H4 (e3.trans x), fun c ρ4 S4 a u φ4 H4 σ4 x => hx c ρ4 S4 a u φ4 H4 σ4 (e3.trans x)⟩
    | false => exact hn _ _ hw _ _ _ Ext.refl rs re
end

/-! ### what isn't reached any more is left out behind a call -/
mutual
def Cl (n : Nat) : D → Prop
  | .ref m => m < n
  | .tup ds => Cls' n ds
  | .rol ds => Cls' n ds
  | .non => True
  | .bl _ => True
  | .int _ => True
  | .str _ => True
  | .adr _ => True
def Cls' (n : Nat) : List D → Prop
  | [] => True
  | d :: ds => Cl n d ∧ Cls' n ds
end
def ClC (n : Nat) : Cell → Prop
  | .lst ds => Cls' n ds
  | .dct ks => Cls' n (ks.map (·.2))
  | .ins _ fs => Cls' n (fs.map (·.2))
def ClS (S : Store) : Prop := ∀ (i : Nat) (c : Cell), S[i]? = some c → ClC S.length c
mutual
def Ren (ψ : List Nat) : D → D → Prop
  | .ref i, e => ∃ j, ψ[i]? = some j ∧ e = .ref j
  | .tup ds, e => ∃ es, e = .tup es ∧ Rens ψ ds es
  | .rol ds, e => ∃ es, e = .rol es ∧ Rens ψ ds es
  | .non, e => e = .non
  | .bl b, e => e = .bl b
  | .int i, e => e = .int i
  | .str x, e => e = .str x
  | .adr x, e => e = .adr x
def Rens (ψ : List Nat) : List D → List D → Prop
  | [], es => es = []
  | d :: ds, es => ∃ e r, es = e :: r ∧ Ren ψ d e ∧ Rens ψ ds r
end
def RenC (ψ : List Nat) : Cell → Cell → Prop
  | .lst ds, c => ∃ es, c = .lst es ∧ Rens ψ ds es
  | .dct ks, c => ∃ es, c = .dct es ∧ ks.map (·.1) = es.map (·.1) ∧ Rens ψ (ks.map (·.2)) (es.map (·.2))
  | .ins k fs, c => ∃ es, c = .ins k es ∧ fs.map (·.1) = es.map (·.1) ∧ Rens ψ (fs.map (·.2)) (es.map (·.2))
/-- behind a call: the store S' with the value d' may be read as S2 with d2; the first n cells stay where they are -/
def Gc (n : Nat) (S' : Store) (d' : D) (S2 : Store) (d2 : D) : Prop := ∃ ψ : List Nat, (∃ t, ψ = List.range n ++ t) ∧ ψ.Nodup ∧ ψ.length = S2.length ∧
  (∀ (i j : Nat) (c2 : Cell), S2[i]? = some c2 → ψ[i]? = some j → ∃ c : Cell, S'[j]? = some c ∧ RenC ψ c2 c) ∧ Ren ψ d2 d'
def RetQ (n : Nat) (Q : PQ) (d : D) (S : Store) : Prop := Q d S ∨ ∃ S2 d2, Gc n S d S2 d2 ∧ Q d2 S2
def RetE (n : Nat) (E : Str → Store → Prop) (c : Str) (S : Store) : Prop := E c S ∨ ∃ S2, Gc n S .non S2 .non ∧ E c S2

theorem Rens.nil {ψ : List Nat} : Rens ψ [] [] := by simp only [Rens]
theorem Rens.cons {ψ : List Nat} {d e : D} {ds es : List D} (h : Ren ψ d e) (t : Rens ψ ds es) : Rens ψ (d :: ds) (e :: es) := by simp only [Rens]; exact ⟨e, es, rfl, h, t⟩
mutual
theorem Ren.id {ψ : List Nat} {n : Nat} (hψ : ∀ i, i < n → ψ[i]? = some i) : ∀ {d : D}, Cl n d → Ren ψ d d
  | .ref m, h => by
    simp only [Cl] at h; simp only [Ren]; exact ⟨m, hψ m h, rfl⟩
  | .tup ds, h => by
    simp only [Cl] at h; simp only [Ren]; exact ⟨ds, rfl, Rens.id hψ h⟩
  | .rol ds, h => by
    simp only [Cl] at h; simp only [Ren]; exact ⟨ds, rfl, Rens.id hψ h⟩
  | .non, _ => by simp only [Ren]
  | .bl _, _ => by simp only [Ren]
  | .int _, _ => by simp only [Ren]
  | .str _, _ => by simp only [Ren]
  | .adr _, _ => by simp only [Ren]
theorem Rens.id {ψ : List Nat} {n : Nat} (hψ : ∀ i, i < n → ψ[i]? = some i) : ∀ {ds : List D}, Cls' n ds → Rens ψ ds ds
  | [], _ => Rens.nil
  | d :: ds, h => by
    simp only [Cls'] at h
    exact Rens.cons (Ren.id hψ h.1) (Rens.id hψ h.2)
end
theorem RenC.id {ψ : List Nat} {n : Nat} (hψ : ∀ i, i < n → ψ[i]? = some i) : ∀ {c : Cell}, ClC n c → RenC ψ c c
  | .lst ds, h => ⟨ds, rfl, Rens.id hψ h⟩
  | .dct ds, h => ⟨ds, rfl, rfl, Rens.id hψ h⟩
  | .ins k ds, h => ⟨ds, rfl, rfl, Rens.id hψ h⟩
theorem range_get {n i : Nat} {t : List Nat} (h : i < n) : (List.range n ++ t)[i]? = some i := by
  rw [List.getElem?_append_left (by simpa using h), List.getElem?_range h]
/-- nothing of what was made is told -/
theorem Gc.drop {S0 G : Store} {d : D} {n : Nat} (hn : S0.length = n) (hc : ClS S0) (hd : Cl n d) : Gc n (S0 ++ G) d S0 d := by
  subst hn
  refine ⟨List.range S0.length, ⟨[], by simp⟩, List.nodup_range, by simp, fun i j c2 h1 h2 => ?_, Ren.id (fun i h => by simpa using range_get (t := []) h) hd⟩
  have hi : i < S0.length := (List.getElem?_eq_some_iff.mp h1).1
  rw [List.getElem?_range hi] at h2
  cases h2
  exact ⟨c2, by rw [List.getElem?_append_left hi]; exact h1, RenC.id (fun i h => by simpa using range_get (t := []) h) (hc i c2 h1)⟩
/-- a list of things that were there ahead, or hold no places -/
theorem Gc.one {S0 S' : Store} {c : Cell} {n k : Nat} (hn : S0.length = n) (hc : ClS S0) (h0 : ∀ i, i < n → S'[i]? = S0[i]?) (hk : S'[k]? = some c) (hnk : n ≤ k) (hd : ClC n c) : Gc n S' (.ref k) (S0 ++ [c]) (.ref n) := by
  subst hn
  have hψ : ∀ i, i < S0.length → (List.range S0.length ++ [k])[i]? = some i := fun i h => range_get h
  refine ⟨List.range S0.length ++ [k], ⟨[k], rfl⟩, ?_, by simp, fun i j c2 h1 h2 => ?_, ?_⟩
  · rw [List.nodup_append]
    exact ⟨List.nodup_range, by simp, fun a ha b hb e => by
      have h1 : a < S0.length := by simpa using ha
      have h2 : b = k := by simpa using hb
      omega⟩
  · by_cases hi : i < S0.length
    · rw [hψ i hi] at h2; cases h2
      rw [List.getElem?_append_left hi] at h1
      exact ⟨c2, by rw [h0 i hi]; exact h1, RenC.id hψ (hc i c2 h1)⟩
    · have hi2 : i = S0.length := by
        have := (List.getElem?_eq_some_iff.mp h1).1
        simp at this; omega
      subst hi2
      rw [List.getElem?_append_right (Nat.le_refl _)] at h1
      rw [List.getElem?_append_right (by simp)] at h2
      simp at h1 h2
      subst h1; subst h2
      exact ⟨c, hk, RenC.id hψ hd⟩
  · simp only [Ren]
    exact ⟨k, by rw [List.getElem?_append_right (by simp)]; simp, rfl⟩

/-! ### the heap's side -/
section
variable {K : PySem.W.Frag} {mg : Str → Option Value} {φ : List Addr} {H : Hp}
def pick (φ : List Addr) (ψ : List Nat) : List Addr := ψ.filterMap fun j => φ[j]?
theorem pick_length {φ : List Addr} : ∀ {ψ : List Nat}, (∀ j ∈ ψ, j < φ.length) → (pick φ ψ).length = ψ.length
  | [], _ => rfl
  | j :: ψ, h => by
    unfold pick
    rw [List.filterMap_cons, List.getElem?_eq_getElem (h j (List.mem_cons_self ..))]
    have := pick_length (ψ := ψ) fun i hi => h i (List.mem_cons_of_mem _ hi)
    unfold pick at this
    simp [this]
theorem pick_get {φ : List Addr} : ∀ {ψ : List Nat}, (∀ j ∈ ψ, j < φ.length) → ∀ {i j : Nat}, ψ[i]? = some j → (pick φ ψ)[i]? = φ[j]?
  | [], _, i, j, e => by simp at e
  | k :: ψ, h, i, j, e => by
    unfold pick
    rw [List.filterMap_cons, List.getElem?_eq_getElem (h k (List.mem_cons_self ..))]
    cases i with
    | zero => simp at e; subst e; simp
    | succ i =>
      have := pick_get (ψ := ψ) (fun i hi => h i (List.mem_cons_of_mem _ hi)) (i := i) (j := j) (by simpa using e)
      unfold pick at this
      simpa using this
theorem pick_range {φ : List Addr} {t : List Addr} : pick (φ ++ t) (List.range φ.length) = φ := by
  apply List.ext_getElem?
  intro i
  by_cases hi : i < φ.length
  · rw [pick_get (fun j hj => by simp at hj ⊢; omega) (List.getElem?_range hi), List.getElem?_append_left hi]
  · rw [List.getElem?_eq_none (by rw [pick_length (fun j hj => by simp at hj ⊢; omega)]; simpa using hi), List.getElem?_eq_none (by omega)]
theorem pick_mem {φ : List Addr} {ψ : List Nat} {a : Addr} (h : a ∈ pick φ ψ) : a ∈ φ := by
  unfold pick at h
  obtain ⟨j, _, e⟩ := List.mem_filterMap.mp h
  exact List.mem_of_getElem? e
theorem pick_nodup {φ : List Addr} (hφ : φ.Nodup) : ∀ {ψ : List Nat}, ψ.Nodup → (pick φ ψ).Nodup
  | [], _ => by simp [pick]
  | j :: ψ, h => by
    rw [List.nodup_cons] at h
    have ih := pick_nodup hφ h.2
    unfold pick at ih ⊢
    rw [List.filterMap_cons]
    cases e : φ[j]? with
    | none => exact ih
    | some a =>
      refine List.nodup_cons.mpr ⟨fun hm => ?_, ih⟩
      obtain ⟨k, hk, ek⟩ := List.mem_filterMap.mp hm
      obtain ⟨h1, q1⟩ := List.getElem?_eq_some_iff.mp e
      obtain ⟨h2, q2⟩ := List.getElem?_eq_some_iff.mp ek
      have := (List.getElem_inj hφ).mp (q1.trans q2.symm)
      subst this
      exact h.1 hk
mutual
theorem RD.ren {ψ : List Nat} (hψ : ∀ j ∈ ψ, j < φ.length) : ∀ {d e : D} {v : V}, Ren ψ d e → RD K φ H e v → RD K (pick φ ψ) H d v
  | .ref i, e, v, h, r => by
    simp only [Ren] at h
    obtain ⟨j, h1, rfl⟩ := h
    simp only [RD] at r ⊢
    rw [pick_get hψ h1]; exact r
  | .tup ds, e, v, h, r => by
    simp only [Ren] at h
    obtain ⟨es, rfl, h⟩ := h
    simp only [RD] at r ⊢
    obtain ⟨a, vs, h1, h2, r⟩ := r
    exact ⟨a, vs, h1, h2, RDs.ren hψ h r⟩
  | .rol ds, e, v, h, r => by
    simp only [Ren] at h
    obtain ⟨es, rfl, h⟩ := h
    simp only [RD] at r ⊢
    obtain ⟨a, vs, h1, h2, r⟩ := r
    exact ⟨a, vs, h1, h2, RDs.ren hψ h r⟩
  | .non, e, v, h, r => by simp only [Ren] at h; subst h; simpa only [RD] using r
  | .bl _, e, v, h, r => by simp only [Ren] at h; subst h; simpa only [RD] using r
  | .int _, e, v, h, r => by simp only [Ren] at h; subst h; simpa only [RD] using r
  | .str _, e, v, h, r => by simp only [Ren] at h; subst h; simpa only [RD] using r
  | .adr _, e, v, h, r => by simp only [Ren] at h; subst h; simpa only [RD] using r
theorem RDs.ren {ψ : List Nat} (hψ : ∀ j ∈ ψ, j < φ.length) : ∀ {ds es : List D} {vs : List V}, Rens ψ ds es → RDs K φ H es vs → RDs K (pick φ ψ) H ds vs
  | [], es, vs, h, r => by
    simp only [Rens] at h; subst h
    simpa only [RDs] using r
  | d :: ds, es, vs, h, r => by
    simp only [Rens] at h
    obtain ⟨e, t, rfl, h1, h2⟩ := h
    obtain ⟨v, q, rfl, r1, r2⟩ := r.inv
    exact RDs.cons (RD.ren hψ h1 r1) (RDs.ren hψ h2 r2)
end
theorem Rens.length {ψ : List Nat} : ∀ {ds es : List D}, Rens ψ ds es → ds.length = es.length
  | [], es, h => by simp only [Rens] at h; subst h; rfl
  | d :: ds, es, h => by
    simp only [Rens] at h
    obtain ⟨e, t, rfl, h1, h2⟩ := h
    simp [Rens.length h2]
theorem RC.ren {ψ : List Nat} (hψ : ∀ j ∈ ψ, j < φ.length) {a : Addr} : ∀ {c e : Cell}, RenC ψ c e → RC K mg φ H a e → RC K mg (pick φ ψ) H a c
  | .lst ds, e, h, r => by
    obtain ⟨es, rfl, h⟩ := h
    obtain ⟨vs, h1, h2, h3⟩ := r
    exact ⟨vs, h1, h2.ren hψ h, by rw [h.length]; exact h3⟩
  | .dct ds, e, h, r => by
    obtain ⟨es, rfl, hk, h⟩ := h
    obtain ⟨vs, h1, ⟨h2, h4⟩, h3⟩ := r
    refine ⟨vs, h1, ⟨hk.trans h2, h4.ren hψ h⟩, ?_⟩
    have := h.length
    simp at this
    omega
  | .ins k ds, e, h, r => by
    obtain ⟨es, rfl, hk, h⟩ := h
    obtain ⟨C, dx, vs, h0, h1, h2, h4⟩ := r
    exact ⟨C, dx, vs, h0, h1, hk.trans h2, h4.ren hψ h⟩
theorem RDs.ren' : True := trivial
theorem gc_ok {φ' : List Addr} {H' : Hp} {S' S2 : Store} {d' d2 : D} {v : V} {n : Nat} (x : Ext φ H φ' H') (hn : φ.length = n) (rs : RS K mg φ' S' H') (rd : RD K φ' H' d' v) (g : Gc n S' d' S2 d2) :
    ∃ φ2, Ext φ H φ2 H' ∧ RS K mg φ2 S2 H' ∧ RD K φ2 H' d2 v := by
  obtain ⟨ψ, ⟨t, ht⟩, nd, hl, hc, hd⟩ := g
  have hψ : ∀ j ∈ ψ, j < φ'.length := fun j hj => by
    obtain ⟨i, hi, e⟩ := List.mem_iff_getElem.mp hj
    have h1 : i < S2.length := by omega
    obtain ⟨c, h2, _⟩ := hc i j _ (List.getElem?_eq_getElem h1) (by rw [List.getElem?_eq_getElem hi, e])
    rw [rs.len]
    exact (List.getElem?_eq_some_iff.mp h2).1
  obtain ⟨u, hu⟩ := x.pre
  refine ⟨pick φ' ψ, ⟨⟨pick φ' t, ?_⟩, x.keep, x.im, fun b hb => x.new b (pick_mem hb)⟩, ⟨by rw [pick_length hψ, hl], pick_nodup rs.nd nd, fun i c a e1 e2 => ?_⟩, RD.ren hψ hd rd⟩
  · rw [ht]
    unfold pick
    rw [List.filterMap_append]
    have := pick_range (φ := φ) (t := u)
    unfold pick at this
    rw [← hn, hu, this]
  · have hi : i < ψ.length := by rw [hl]; exact (List.getElem?_eq_some_iff.mp e1).1
    have e3 : ψ[i]? = some ψ[i] := List.getElem?_eq_getElem hi
    rw [pick_get hψ e3] at e2
    obtain ⟨c', h1, h2⟩ := hc i _ c e1 e3
    exact RC.ren hψ h2 (rs.cell _ _ _ h1 e2)
mutual
theorem RD.cl : ∀ {d : D} {v : V}, RD K φ H d v → Cl φ.length d
  | .ref n, v, h => by
    simp only [RD] at h; simp only [Cl]
    obtain ⟨a, h, _⟩ := h
    exact (List.getElem?_eq_some_iff.mp h).1
  | .tup ds, v, h => by
    simp only [RD] at h; simp only [Cl]
    obtain ⟨a, vs, _, _, h⟩ := h
    exact RDs.cl h
  | .rol ds, v, h => by
    simp only [RD] at h; simp only [Cl]
    obtain ⟨a, vs, _, _, h⟩ := h
    exact RDs.cl h
  | .non, v, h => by simp only [Cl]
  | .bl _, v, h => by simp only [Cl]
  | .int _, v, h => by simp only [Cl]
  | .str _, v, h => by simp only [Cl]
  | .adr _, v, h => by simp only [Cl]
theorem RDs.cl : ∀ {ds : List D} {vs : List V}, RDs K φ H ds vs → Cls' φ.length ds
  | [], _, _ => by simp only [Cls']
  | d :: ds, vs, h => by
    obtain ⟨v, r, _, h1, h2⟩ := h.inv
    simp only [Cls']
    exact ⟨RD.cl h1, RDs.cl h2⟩
end
theorem RS.cl {S : Store} (rs : RS K mg φ S H) : ClS S := fun i c e => by
  obtain ⟨a, ha, hc⟩ := rs.ref e
  rw [← rs.len]
  cases c with
  | lst ds => obtain ⟨vs, _, r, _⟩ := hc; exact r.cl
  | dct ks => obtain ⟨vs, _, r, _⟩ := hc; exact r.2.cl
  | ins k fs => obtain ⟨C, dx, vs, _, _, r⟩ := hc; exact r.2.cl
end

/-! ### a def -/
def startD (N : List Str) (ds : List D) : DEnv := ds.map some ++ List.replicate (N.length - ds.length) none
theorem RE.st {K : PySem.W.Frag} {φ : List Addr} {H : Hp} {N : List Str} {ds : List D} {vs : List V} (r : RDs K φ H ds vs) : RE K φ H (startD N ds) (start N vs) := by
  have hl := r.length
  refine ⟨by unfold startD L2.start; simp [hl], fun i d h => ?_⟩
  unfold startD at h
  by_cases hi : i < ds.length
  · rw [List.getElem?_append_left (by simpa using hi), List.getElem?_map] at h
    cases e : ds[i]? with
    | none => rw [e] at h; simp at h
    | some x =>
      rw [e] at h
      simp at h
      subst h
      obtain ⟨v, h1, h2⟩ := r.get e
      refine ⟨v, ?_, h2⟩
      unfold L2.start
      rw [List.getElem?_append_left (by rw [List.length_map, ← hl]; exact hi), List.getElem?_map, h1]; rfl
  · rw [List.getElem?_append_right (by simpa using hi), List.getElem?_replicate] at h
    split at h <;> simp at h
/-- what a def's promise over the store is to be shown -/
def Ob (N : List Str) (sp : SPf) (w : WS) : Prop := ∀ ds S Q E, ClS S → Cls' S.length ds → sp ds S Q E → w (startD N ds) S ⟨fun _ S' => RetQ S.length Q .non S', RetQ S.length Q⟩ (fun c _ S' => RetE S.length E c S')
theorem fn_ok {P : Program} {w : World} {K : PySem.W.Frag} {mg : Str → Option Value} {base : Heap} {x qual : Str} {st : Stmt} {f : Addr} {fd : FuncData} {N ps : List Str} {k : Nat} {sp : SPf} (F : Fun K x qual st f fd) (S : FnScope N ps (defScope st)) (u : WS)
    (len : ∀ ds S Q E, sp ds S Q E → ds.length = ps.length)
    (hb : ∀ (cdv : Value) (A : Around) (outer : List Env) (s : Shared) (H : Hp) (E : XK), Room k (A.deeper (envOfC qual (defScope st) s.heap.objs.size f cdv)) →
      PSs (cxOf (L2.CX P w) P w K mg base N qual (defScope st) f cdv A outer s H E) (defBody st) (tsm K mg (fun cls d _ H => E cls d H) u))
    (ob : Ob N sp u) : FnOk P w K mg base (L2.CX P w) (k + 1) f fd ps (spOf K mg sp) := by
  refine F.okX S (fun vs H Q E ⟨φ, S, ds, rs, rd, Q', E', h, _⟩ => ?_) fun cdv A outer s H vs Q E hr ⟨φ, S, ds, rs, rd, Q', E', h, hn, hx⟩ => ?_
  · rw [← rd.length]; exact len _ _ _ _ h
  · have ret : ∀ d S', RetQ S.length Q' d S' → ∀ v φ' H', Ext φ H φ' H' → RS K mg φ' S' H' → RD K φ' H' d v → Q v H' := fun d S' hq v φ' H' x rs' rd' => by
      rcases hq with hq | ⟨S2, d2, g, hq⟩
      · exact hn d S' hq v φ' H' x rs' rd'
      · obtain ⟨φ2, x2, rs2, rd2⟩ := gc_ok x rs.len rs' rd' g
        exact hn d2 S2 hq v φ2 H' x2 rs2 rd2
    refine ⟨_, hb cdv A outer s H E hr, φ, startD N ds, S, rs, RE.st rd, _, _, ob ds S Q' E' rs.cl (by rw [← rs.len]; exact rd.cl) h, fun ρ' S' hq σ' φ' H' x rs' re' => ret .non S' hq .non φ' H' x rs' RD.non, ret, fun c ρ' S' hq u φ' H' σ' x rs' re' m => ?_⟩
    rcases hq with hq | ⟨S2, g, hq⟩
    · exact hx c S' hq u φ' H' x rs' m
    · obtain ⟨φ2, x2, rs2, rd2⟩ := gc_ok x rs.len rs' (RD.non (φ := φ') (H := H')) g
      exact hx c S2 hq u φ2 H' x2 rs2 m

/-! ### comprehensions -/
def NoE : PX := fun _ _ _ => False
def wYes : W := ret (.bl true)
def compG (st : Store → Prop) (b : Tg) (c e : W) : List D → List D → DEnv → Store → PQ → Prop
  | [], acc, _, S, Q => st S ∧ Q (.ref S.length) (S ++ [.lst acc])
  | x :: xs, acc, ρ, S, Q => st S ∧ b x ρ fun ρ1 => c ρ1 S (fun d S1 => ∃ k, d = .bl k ∧
      if k = true then e ρ1 S1 (fun y S2 => compG st b c e xs (acc ++ [y]) ρ S2 Q) NoE else compG st b c e xs acc ρ S1 Q) NoE
def wipeD : DEnv → List Nat → DEnv
  | ρ, [] => ρ
  | ρ, v :: vs => (wipeD ρ vs).set v none
def wComp (vs : List Nat) (b : Tg) (w c e : W) : W := fun ρ S Q E => w ρ S (fun d S1 => ∃ n ds, d = .ref n ∧ atL n ds S1 ∧ compG (atL n ds) b c e ds [] (wipeD ρ vs) S1 Q) E
def wCompT (vs : List Nat) (b : Tg) (w c e : W) : W := fun ρ S Q E => w ρ S (fun d S1 => ∃ ds, d = .tup ds ∧ ds.length ≤ 1000 ∧ compG (fun _ => True) b c e ds [] (wipeD ρ vs) S1 Q) E
def wCompR1 (vs : List Nat) (b : Tg) (w c e : W) : W := fun ρ S Q E => w ρ S (fun d S1 => ∃ j : Int, d = .int j ∧ -(2 ^ 62) ≤ j ∧ j ≤ 100000 ∧ compG (fun _ => True) b c e (rangeD 0 j.toNat) [] (wipeD ρ vs) S1 Q) E
def wCompR2 (vs : List Nat) (b : Tg) (w u c e : W) : W := fun ρ S Q E => w ρ S (fun d S1 => u ρ S1 (fun d2 S2 => ∃ i j : Int, d = .int i ∧ d2 = .int j ∧ (-(2 ^ 62) ≤ i ∧ i < 2 ^ 62 ∧ -(2 ^ 62) ≤ j ∧ j < 2 ^ 62 ∧ j - i ≤ 100000) ∧ compG (fun _ => True) b c e (rangeD i (j - i).toNat) [] (wipeD ρ vs) S2 Q) E) E
theorem wipeD_length (ρ : DEnv) : ∀ vs, (wipeD ρ vs).length = ρ.length
  | [] => rfl
  | v :: vs => by unfold wipeD; rw [List.length_set, wipeD_length ρ vs]
theorem RE.wipe {K : PySem.W.Frag} {φ : List Addr} {H : Hp} {ρ : DEnv} {σ : L2.St} (h : RE K φ H ρ σ) : ∀ vs, RE K φ H (wipeD ρ vs) (L2.wipe σ vs)
  | [] => h
  | v :: vs => by unfold wipeD L2.wipe; exact (RE.wipe h vs).none v
theorem wipe_set1 (σ : L2.St) (i : Nat) (v : Option V) : L2.wipe ((L2.wipe σ [i]).set i v) [i] = L2.wipe σ [i] := by
  show ((σ.set i none).set i v).set i none = σ.set i none
  simp
theorem of_name (X : Cx) (i : Nat) : ∀ φ ρ σ0 H d v (k : DEnv → Prop) (Q : L2.St → Hp → Prop), RE X.K φ H ρ (L2.wipe σ0 [i]) → RD X.K φ H d v → tN i d ρ k → (∀ ρ' σ', k ρ' → RE X.K φ H ρ' σ' → L2.wipe σ' [i] = L2.wipe σ0 [i] → Q σ' H) → gName i v (L2.wipe σ0 [i]) H Q :=
  fun φ ρ σ0 H d v k Q re rd h q => q _ _ h (re.set rd i) (wipe_set1 _ _ _)
theorem wipe_set2 (σ : L2.St) (i j : Nat) (v w : Option V) : L2.wipe (((L2.wipe σ [i, j]).set i v).set j w) [i, j] = L2.wipe σ [i, j] := by
  show (((((σ.set j none).set i none).set i v).set j w).set j none).set i none = (σ.set j none).set i none
  apply List.ext_getElem?
  intro k
  simp only [List.getElem?_set, List.length_set]
  by_cases h1 : i = k <;> by_cases h2 : j = k <;> simp [h1, h2]
section
variable {X : Cx} {WW : WX} {a e elt tg iter : Expr} {ifs : List Expr} {scope : Scope} {own : List (Str × Nat)} {pos : Pos} {w c ee : W} {vs : List Nat}
def PN (K : PySem.W.Frag) (φ : List Addr) (H1 : Hp) (DD : Addr) (mg : Str → Option Value) (ds : List D) (stb : Store → Prop) (b : Tg) (c ee : W) (ρ : DEnv) (Q' : PQ) (i : Nat) (H' : Hp) : Prop :=
  ∃ φ' S' acc us, Ext φ H1 φ' H' ∧ RS K mg φ' S' H' ∧ DD ∉ φ' ∧ H' DD = some (.lst us) ∧ RDs K φ' H' acc us ∧ acc.length + (ds.length - i) ≤ sizeLine ∧ compG stb b c ee (ds.drop i) acc ρ S' Q'
theorem pn_st {K : PySem.W.Frag} {φ : List Addr} {H1 : Hp} {DD : Addr} {mg : Str → Option Value} {ds : List D} {stb : Store → Prop} {b : Tg} {ρ : DEnv} {Q' : PQ} {i : Nat} {H' : Hp} (h : PN K φ H1 DD mg ds stb b c ee ρ Q' i H') :
    ∃ φ' S', Ext φ H1 φ' H' ∧ RS K mg φ' S' H' ∧ stb S' := by
  obtain ⟨φ', S', acc, us, x, rs, nd, hD, r, hl, h⟩ := h
  refine ⟨φ', S', x, rs, ?_⟩
  cases hd : ds.drop i with
  | nil => rw [hd] at h; exact h.1
  | cons y ys => rw [hd] at h; exact h.1
theorem pn_turn {φ : List Addr} {H1 : Hp} {DD : Addr} {ds : List D} {stb : Store → Prop} {b : Tg} {g : TG} {ρ : DEnv} {Q' : PQ} {i : Nat} {H' : Hp} {σ : L2.St} {d : D} {y : V} {t : TT} {te : TE} (hn : H1 DD = none)
    (ho : ∀ φ ρ σ0 H d v (k : DEnv → Prop) (Q : L2.St → Hp → Prop), RE X.K φ H ρ (L2.wipe σ0 vs) → RD X.K φ H d v → b d ρ k → (∀ ρ' σ', k ρ' → RE X.K φ H ρ' σ' → L2.wipe σ' vs = L2.wipe σ0 vs → Q σ' H) → g v (L2.wipe σ0 vs) H Q)
    (h : PN X.K φ H1 DD X.mg ds stb b c ee ρ Q' i H') (hi : ds[i]? = some d) (re : RE X.K φ H1 ρ (L2.wipe σ vs)) (rd : ∀ φ' S', Ext φ H1 φ' H' → RS X.K X.mg φ' S' H' → stb S' → RD X.K φ' H' d y)
    (ht : ∀ σ H Q, tm X.K X.mg (fun _ _ _ _ => False) c σ H (fun v H' => ∃ k, v = .bl k ∧ Q k H') → t σ H Q) (hte : ∀ σ H Q, tm X.K X.mg (fun _ _ _ _ => False) ee σ H Q → te σ H Q) :
    g y (L2.wipe σ vs) H' fun σ2 H2 => L2.wipe σ2 vs = L2.wipe σ vs ∧ t σ2 H2 fun k H3 =>
      if k = true then te σ2 H3 fun z H4 => ∃ acc, H4 DD = some (.lst acc) ∧ acc.length < sizeLine ∧ PN X.K φ H1 DD X.mg ds stb b c ee ρ Q' (i + 1) (upd H4 DD (.lst (acc ++ [z]))) else PN X.K φ H1 DD X.mg ds stb b c ee ρ Q' (i + 1) H3 := by
  obtain ⟨φ', S', acc, us, x, rs, nd, hD, r, hl, h⟩ := h
  rw [drop_cons hi] at h
  obtain ⟨hs, h⟩ := h
  have hlt : i < ds.length := (List.getElem?_eq_some_iff.mp hi).1
  refine ho φ' ρ σ H' d y _ _ (re.mono x) (rd φ' S' x rs hs) h fun ρ1 σ1 h1 re1 hw => ⟨hw, ht _ _ _ ?_⟩
  refine ⟨φ', ρ1, S', rs, re1, _, NoE, h1, fun dk S1 h2 v φ2 H2 e2 rs2 rd2 => ?_, fun _ _ _ z => z.elim⟩
  obtain ⟨k, rfl, h2⟩ := h2
  refine ⟨k, rd2.bl_inv, ?_⟩
  have nd2 : DD ∉ φ2 := fun hm => by
    rcases e2.new DD hm with q | q
    · exact nd q
    · rw [hD] at q; cases q
  have hD2 : H2 DD = some (.lst us) := e2.keep _ _ hD nd
  cases k with
  | true =>
    refine hte _ _ _ ⟨φ2, ρ1, S1, rs2, re1.mono e2, _, NoE, h2, fun dy S3 h3 v3 φ3 H3 e3 rs3 rd3 => ?_, fun _ _ _ z => z.elim⟩
    have nd3 : DD ∉ φ3 := fun hm => by
      rcases e3.new DD hm with q | q
      · exact nd2 q
      · rw [hD2] at q; cases q
    have hD3 : H3 DD = some (.lst us) := e3.keep _ _ hD2 nd2
    have hu : us.length = acc.length := r.length.symm
    have lg : Le φ3 H3 φ3 (upd H3 DD (.lst (us ++ [v3]))) := Le.grow hD3
    refine ⟨us, hD3, by rw [hu]; omega, φ3, S3, acc ++ [dy], us ++ [v3], ((x.trans e2).trans e3).grow hn (.inr ⟨us, hD3⟩), rs3.grow hD3 nd3, nd3, upd_same, ?_, by simp; omega, h3⟩
    exact (((r.mono e2).mono e3).append (RDs.cons rd3 RDs.nil)).le lg
  | false => exact ⟨φ2, S1, acc, us, x.trans e2, rs2, nd2, hD2, r.mono e2, by omega, h2⟩
theorem pn_start {φ : List Addr} {H1 : Hp} {DD : Addr} {S : Store} {ds : List D} {stb : Store → Prop} {b : Tg} {ρ : DEnv} {Q' : PQ} (rs : RS X.K X.mg φ S H1) (hn : H1 DD = none) (hz : ds.length ≤ sizeLine) (h : compG stb b c ee ds [] ρ S Q') :
    PN X.K φ H1 DD X.mg ds stb b c ee ρ Q' 0 (upd H1 DD (.lst [])) :=
  ⟨φ, S, [], [], Ext.laid rs hn, rs.laid hn, rs.out hn, upd_same, RDs.nil, by simpa using hz, by simpa using h⟩
theorem pn_end {φ : List Addr} {H1 : Hp} {DD : Addr} {ds : List D} {stb : Store → Prop} {b : Tg} {ρ : DEnv} {Q' : PQ} {H' : Hp} {i : Nat} {Q : VK} (hn : H1 DD = none) (h : PN X.K φ H1 DD X.mg ds stb b c ee ρ Q' i H') (hi : ds.length ≤ i)
    (hq : ∀ d S', Q' d S' → ∀ v φ' H', Ext φ H1 φ' H' → RS X.K X.mg φ' S' H' → RD X.K φ' H' d v → Q v H') : Q (.ref DD) H' := by
  obtain ⟨φ', S', acc, us, x, rs, nd, hD, r, hl, h⟩ := h
  rw [List.drop_of_length_le hi] at h
  have lx : Le φ' H' (φ' ++ [DD]) H' := ⟨fun e => by rw [List.getElem?_append_left (List.getElem?_eq_some_iff.mp e).1]; exact e, fun _ _ e _ => e⟩
  exact hq _ _ h.2 _ _ _ (x.adopt hn) (rs.adopt nd ⟨us, hD, r, by omega⟩) (alloc_ref rs DD)
theorem PTs.conv {X : Cx} {e : List Expr} {t u : TT} (h : PTs X e t) (q : ∀ σ H Q, u σ H Q → t σ H Q) : PTs X e u := ⟨fun pins s σ H Q I hw => h.run pins s σ H Q I (q σ H Q hw)⟩
/-- no test -/
theorem sts_nil : PTs X [] (ttm X.K X.mg WW wYes) := PTs.conv pts_nil fun σ H Q ⟨φ, ρ, S, q⟩ => by
  obtain ⟨k, e, z⟩ := q.ret RD.bl
  cases e
  exact z
theorem sts_one {t : Expr} (h : PT X t (ttm X.K X.mg WW w)) : PTs X [t] (ttm X.K X.mg WW w) := pts_one h
abbrev NoW : WX := fun _ _ _ _ => False
abbrev Blk (X : Cx) (scope : Scope) (P : Cx → Prop) : Prop := ∀ (s : Shared) (H : Hp) (C : Addr) (cl : List (Str × Addr)) (fp : List Addr), P (X.blk s H scope (compEnvC scope cl C X.env) fp)
/-- the walk of a comprehension over a list -/
theorem lc_go {g : TG} {b : Tg} (ho : ∀ φ ρ σ0 H d v (k : DEnv → Prop) (Q : L2.St → Hp → Prop), RE X.K φ H ρ (L2.wipe σ0 vs) → RD X.K φ H d v → b d ρ k → (∀ ρ' σ', k ρ' → RE X.K φ H ρ' σ' → L2.wipe σ' vs = L2.wipe σ0 vs → Q σ' H) → g v (L2.wipe σ0 vs) H Q)
    (σ : L2.St) (H : Hp) (Q : VK) (q : tm X.K X.mg WW (wComp vs b w c ee) σ H Q) : tLc (iList X.K (tm X.K X.mg WW w)) g (ttm X.K X.mg NoW c) (tm X.K X.mg NoW ee) vs σ H Q := by
  obtain ⟨φ, ρ, S, rs, re, Q', E', hw, hn, hx⟩ := q
  refine ⟨φ, ρ, S, rs, re, _, E', hw, fun d S1 ⟨n, ds, e1, hat, h1⟩ v φ1 H1 x1 rs1 rd1 => ?_, hx⟩
  subst e1
  obtain ⟨a, us, rfl, ha, hH, r, z⟩ := rs1.lst hat rd1
  refine ⟨a, rfl, ⟨us, SqL.of hH⟩, fun DD hD => ?_⟩
  refine ⟨fun i m H' => m = ds.length - i ∧ PN X.K φ1 H1 DD X.mg ds (atL n ds) b c ee (wipeD ρ vs) Q' i H', ⟨_, rfl, pn_start rs1 hD z h1⟩, ?_⟩
  rintro i m H' ⟨rfl, p⟩
  obtain ⟨φ', S', x', rs', hs'⟩ := pn_st p
  obtain ⟨a2, vs2, e2, ha2, hH2, r2, _⟩ := rs'.lst hs' (rd1.mono x')
  cases e2
  by_cases hi : i < ds.length
  · have hd : ds[i]? = some ds[i] := List.getElem?_eq_getElem hi
    obtain ⟨y, hy, ry⟩ := r2.get hd
    refine .inr ⟨⟨vs2, y, SqL.of hH2, hy⟩, PN X.K φ1 H1 DD X.mg ds (atL n ds) b c ee (wipeD ρ vs) Q' (i + 1), fun H2 h2 => ⟨ds.length - (i + 1), by omega, rfl, h2⟩, fun yy H2 hx2 => ?_⟩
    obtain ⟨rfl, fx⟩ := hx2
    have ex : yy = y := Option.some.inj ((fx _ (SqL.of hH2)).symm.trans hy)
    subst ex
    refine pn_turn (σ := σ) hD ho p hd ((re.mono x1).wipe vs) (fun φ4 S4 x4 rs4 hs4 => ?_) (fun _ _ _ q => q) (fun _ _ _ q => q)
    obtain ⟨a4, vs4, e4, ha4, hH4, r4, _⟩ := rs4.lst hs4 (rd1.mono x4)
    cases e4
    rw [hH2] at hH4; cases hH4
    obtain ⟨y4, hy4, ry4⟩ := r4.get hd
    rw [hy] at hy4; cases hy4
    exact ry4
  · refine .inl ⟨⟨vs2, SqL.of hH2, by rw [← r2.length]; omega⟩, ?_⟩
    exact pn_end hD p (by omega) fun d S2 a v φ2 H2 x => hn d S2 a v φ2 H2 (x1.trans x)
/-- over a tuple -/
theorem lc_goT {g : TG} {b : Tg} (ho : ∀ φ ρ σ0 H d v (k : DEnv → Prop) (Q : L2.St → Hp → Prop), RE X.K φ H ρ (L2.wipe σ0 vs) → RD X.K φ H d v → b d ρ k → (∀ ρ' σ', k ρ' → RE X.K φ H ρ' σ' → L2.wipe σ' vs = L2.wipe σ0 vs → Q σ' H) → g v (L2.wipe σ0 vs) H Q)
    (σ : L2.St) (H : Hp) (Q : VK) (q : tm X.K X.mg WW (wCompT vs b w c ee) σ H Q) : tLc (iTup X.K (tm X.K X.mg WW w)) g (ttm X.K X.mg NoW c) (tm X.K X.mg NoW ee) vs σ H Q := by
  obtain ⟨φ, ρ, S, rs, re, Q', E', hw, hn, hx⟩ := q
  refine ⟨φ, ρ, S, rs, re, _, E', hw, fun d S1 ⟨ds, e1, hz, h1⟩ v φ1 H1 x1 rs1 rd1 => ?_, hx⟩
  subst e1
  simp only [RD] at rd1
  obtain ⟨a, us, rfl, hH, r⟩ := rd1
  refine ⟨a, rfl, ⟨us, SqT.of hH⟩, fun DD hD => ?_⟩
  refine lc_tup (xs := us) (fun i H' => PN X.K φ1 H1 DD X.mg ds (fun _ => True) b c ee (wipeD ρ vs) Q' i H') (pn_start rs1 hD (Nat.le_of_lt (small1000 hz)) h1) ?_ ?_ ?_
  · intro i H' _ p
    obtain ⟨φ', S', x', rs', hs'⟩ := pn_st p
    exact SqT.of (x'.im _ _ hH fun z => z)
  · intro i x H' hi p
    obtain ⟨d, hd, rx⟩ := r.getV hi
    exact pn_turn (σ := σ) hD ho p hd ((re.mono x1).wipe vs) (fun φ4 S4 x4 rs4 hs4 => rx.mono x4) (fun _ _ _ q => q) (fun _ _ _ q => q)
  · intro H' p
    exact pn_end hD p (by rw [r.length]; exact Nat.le_refl _) fun d S2 a v φ2 H2 x => hn d S2 a v φ2 H2 (x1.trans x)
theorem lc_rng {g : TG} {b : Tg} {ρ : DEnv} {S1 : Store} {φ1 : List Addr} {H1 : Hp} {Q : VK} {Q' : PQ} (ho : ∀ φ ρ σ0 H d v (k : DEnv → Prop) (Q : L2.St → Hp → Prop), RE X.K φ H ρ (L2.wipe σ0 vs) → RD X.K φ H d v → b d ρ k → (∀ ρ' σ', k ρ' → RE X.K φ H ρ' σ' → L2.wipe σ' vs = L2.wipe σ0 vs → Q σ' H) → g v (L2.wipe σ0 vs) H Q)
    (σ : L2.St) (lo : Int) (n : Nat) (hz : n ≤ 100000) (rs1 : RS X.K X.mg φ1 S1 H1) (re : RE X.K φ1 H1 (wipeD ρ vs) (L2.wipe σ vs)) (h1 : compG (fun _ => True) b c ee (rangeD lo n) [] (wipeD ρ vs) S1 Q')
    (hq : ∀ d S', Q' d S' → ∀ v φ' H', Ext φ1 H1 φ' H' → RS X.K X.mg φ' S' H' → RD X.K φ' H' d v → Q v H') : ∀ D, H1 D = none → ∃ W : Nat → Nat → Hp → Prop, (∃ m, W 0 m (upd H1 D (.lst []))) ∧ ∀ i m H, W i m H →
  ((Itr lo n).stop i H ∧ Q (.ref D) H) ∨ ((Itr lo n).go i H ∧ ∃ Nx : Hp → Prop, (∀ H', Nx H' → ∃ m', m' < m ∧ W (i + 1) m' H') ∧ ∀ x H', (Itr lo n).yld i H x H' → g x (L2.wipe σ vs) H' fun σ2 H2 => L2.wipe σ2 vs = L2.wipe σ vs ∧ ttm X.K X.mg NoW c σ2 H2 fun b H3 =>
    if b = true then tm X.K X.mg NoW ee σ2 H3 fun y H4 => ∃ acc, H4 D = some (.lst acc) ∧ acc.length < sizeLine ∧ Nx (upd H4 D (.lst (acc ++ [y]))) else Nx H3) := by
  intro DD hD
  refine lc_range (fun i H' => PN X.K φ1 H1 DD X.mg (rangeD lo n) (fun _ => True) b c ee (wipeD ρ vs) Q' i H') (pn_start rs1 hD (by rw [rangeD_length]; exact Nat.le_trans hz (by decide)) h1) ?_ ?_
  · intro i H' hi p
    exact pn_turn (σ := σ) hD ho p (rangeD_get hi) re (fun φ4 S4 x4 rs4 hs4 => RD.int) (fun _ _ _ q => q) (fun _ _ _ q => q)
  · intro H' p
    exact pn_end hD p (Nat.le_of_eq (rangeD_length lo n)) hq
theorem lc_goR1 {g : TG} {b : Tg} (ho : ∀ φ ρ σ0 H d v (k : DEnv → Prop) (Q : L2.St → Hp → Prop), RE X.K φ H ρ (L2.wipe σ0 vs) → RD X.K φ H d v → b d ρ k → (∀ ρ' σ', k ρ' → RE X.K φ H ρ' σ' → L2.wipe σ' vs = L2.wipe σ0 vs → Q σ' H) → g v (L2.wipe σ0 vs) H Q)
    (σ : L2.St) (H : Hp) (Q : VK) (q : tm X.K X.mg WW (wCompR1 vs b w c ee) σ H Q) : tLc (iRng1 (tCons (tm X.K X.mg WW w) tNil)) g (ttm X.K X.mg NoW c) (tm X.K X.mg NoW ee) vs σ H Q := by
  obtain ⟨φ, ρ, S, rs, re, Q', E', hw, hn, hx⟩ := q
  refine ⟨φ, ρ, S, rs, re, _, E', hw, fun d S1 ⟨j, e1, hl, hz, h1⟩ v φ1 H1 x1 rs1 rd1 => ?_, hx⟩
  subst e1
  rw [rd1.int_inv]
  exact ⟨j, rfl, hl, by omega, lc_rng ho σ 0 j.toNat (by omega) rs1 ((re.mono x1).wipe vs) h1 fun d S2 a v φ2 H2 x => hn d S2 a v φ2 H2 (x1.trans x)⟩
theorem lc_goR2 {g : TG} {b : Tg} {wu : W} (ho : ∀ φ ρ σ0 H d v (k : DEnv → Prop) (Q : L2.St → Hp → Prop), RE X.K φ H ρ (L2.wipe σ0 vs) → RD X.K φ H d v → b d ρ k → (∀ ρ' σ', k ρ' → RE X.K φ H ρ' σ' → L2.wipe σ' vs = L2.wipe σ0 vs → Q σ' H) → g v (L2.wipe σ0 vs) H Q)
    (σ : L2.St) (H : Hp) (Q : VK) (q : tm X.K X.mg WW (wCompR2 vs b w wu c ee) σ H Q) : tLc (iRng2 (tCons (tm X.K X.mg WW w) (tCons (tm X.K X.mg WW wu) tNil))) g (ttm X.K X.mg NoW c) (tm X.K X.mg NoW ee) vs σ H Q := by
  obtain ⟨φ, ρ, S, rs, re, Q', E', hw, hn, hx⟩ := q
  refine ⟨φ, ρ, S, rs, re, _, E', hw, fun d S1 h1 v φ1 H1 x1 rs1 rd1 => ?_, hx⟩
  refine ⟨φ1, ρ, S1, rs1, re.mono x1, _, E', h1, fun d2 S2 ⟨i, j, e1, e2, hz, h2⟩ v2 φ2 H2 x2 rs2 rd2 => ?_, fun c ρ2 S2 a u φ2 H2 σ2 x => hx c ρ2 S2 a u φ2 H2 σ2 (x1.trans x)⟩
  subst e1 e2
  rw [rd1.int_inv, rd2.int_inv]
  exact ⟨i, j, rfl, ⟨hz.1, hz.2.1, hz.2.2.1, hz.2.2.2.1⟩, lc_rng ho σ i (j - i).toNat (by omega) rs2 (((re.mono x1).mono x2).wipe vs) h2 fun d S3 a v φ3 H3 x => hn d S3 a v φ3 H3 ((x1.trans x2).trans x)⟩
theorem of_names2 (X : Cx) (i j : Nat) : ∀ φ ρ σ0 H d v (k : DEnv → Prop) (Q : L2.St → Hp → Prop), RE X.K φ H ρ (L2.wipe σ0 [i, j]) → RD X.K φ H d v → tT [i, j] d ρ k → (∀ ρ' σ', k ρ' → RE X.K φ H ρ' σ' → L2.wipe σ' [i, j] = L2.wipe σ0 [i, j] → Q σ' H) → gTup X.K 2 (gNames [i, j]) v (L2.wipe σ0 [i, j]) H Q :=
  fun φ ρ σ0 H d v k Q re rd ⟨ds, e, l, hk⟩ q => by
    subst e
    simp only [RD] at rd
    obtain ⟨a, vs, rfl, ha, r⟩ := rd
    match ds, l with
    | [d1, d2], _ =>
      obtain ⟨v1, r1, rfl, h1, h2⟩ := r.inv
      obtain ⟨v2, r2, rfl, h3, h4⟩ := h2.inv
      have : r2 = [] := by simpa [RDs] using h4
      subst this
      exact ⟨a, _, rfl, SqT.of ha, rfl, v1, _, rfl, v2, _, rfl, rfl, q _ _ hk ((re.set h1 i).set h3 j) (wipe_set2 _ _ _ _ _)⟩
end

/-! ### slices -/
section
variable {X : Cx} {WW : WX} {a b c e o elt tg iter : Expr} {es ifs : List Expr} {scope : Scope} {own : List (Str × Nat)} {pos p2 apos : Pos} {w wa wb wc ce ee wo : W} {ws : List W} {vs : List Nat}
inductive SO (X : Cx) (WW : WX) : Option Expr → Option W → Prop where
  | none : SO X WW none none
  | some {e : Expr} {w : W} : PE X e (tm X.K X.mg WW w) → SO X WW (some e) (some w)
def tpo (K : PySem.W.Frag) (mg : Str → Option Value) (WW : WX) : Option W → TO
  | none => tNoPart
  | some w => tPart (tm K mg WW w)
theorem SO.po {o : Option Expr} {w : Option W} (h : SO X WW o w) : PO X o (tpo X.K X.mg WW w) := by
  cases h with
  | none => exact po_none
  | some h => exact po_some h
theorem part_of {o : Option W} {k : Option Int → W} {φ : List Addr} {ρ : DEnv} {S : Store} {σ : L2.St} {H : Hp} {Q : VK} (q : tmA X.K X.mg WW φ ρ S (wPart o k) σ H Q) {R : Option Int → Hp → Prop}
    (h : ∀ l φ1 S1 H1, Ext φ H φ1 H1 → tmA X.K X.mg WW φ1 ρ S1 (k l) σ H1 Q → R l H1) : tpo X.K X.mg WW o σ H R := by
  cases o with
  | none => exact h none φ S H Ext.refl q
  | some w =>
    obtain ⟨rs, re, Q1, E1, w1, n1, x1⟩ := (show tmA X.K X.mg WW φ ρ S (bindW w fun d => match d with | .int i => k (some i) | _ => fail) σ H Q from q).bind
    refine ⟨φ, ρ, S, rs, re, Q1, E1, w1, fun d S1 h1 v φ1 H1 e1 rs1 rd1 => ?_, x1⟩
    obtain ⟨d1, φ2, S2, e2, rd2, q2⟩ := n1 d S1 h1 v φ1 H1 e1 rs1 rd1
    cases d1 with
    | int i => exact ⟨i, rd2.int_inv, h (some i) φ2 S2 H1 e2 q2⟩
    | _ => exact q2.no.elim
theorem se_sl {lo hi : Option Expr} {wl wh : Option W} (ha : PE X e (tm X.K X.mg WW wa)) (hl : SO X WW lo wl) (hh : SO X WW hi wh) : PE X (.Subscript e (.Slice lo hi none p2) pos) (tm X.K X.mg WW (wSl wa wl wh)) := by
  refine PE.conv (pe_slice ((sl_list.or sl_str).or sl_tup) ha hl.po hh.po) fun σ H Q q => ?_
  refine tm_bind q fun d v φ ρ S H1 rd q1 => ?_
  refine part_of (X := X) q1 fun l φ2 S2 H2 e2 q2 => ?_
  refine part_of (X := X) q2 fun h φ3 S3 H3 e3 q3 => ?_
  exact pr_sl ((rd.mono e2).mono e3) q3

/-! ### comprehensions as expressions -/
theorem se_lc {b : Tg} {g : TG} (hc : X.calm = true) (hN : X.N.Nodup) (hi : PE X iter (tm X.K X.mg WW w)) (ok : BlkOk X.N X.env.scope scope own) (hv : own.map (·.2) = vs) (hg : Blk X scope fun Y => PG Y tg g)
    (ho : ∀ φ ρ σ0 H d v (k : DEnv → Prop) (Q : L2.St → Hp → Prop), RE X.K φ H ρ (L2.wipe σ0 vs) → RD X.K φ H d v → b d ρ k → (∀ ρ' σ', k ρ' → RE X.K φ H ρ' σ' → L2.wipe σ' vs = L2.wipe σ0 vs → Q σ' H) → g v (L2.wipe σ0 vs) H Q)
    (ht : Blk X scope fun Y => PTs Y ifs (ttm X.K X.mg NoW ce)) (he : Blk X scope fun Y => PE Y elt (tm X.K X.mg NoW ee)) (hs : ∀ x, foldedSetIterable iter X.env x = pure x := by intro _; rfl) :
    PE X (.ListComp elt [⟨tg, iter, ifs, 0⟩] scope pos) (tm X.K X.mg WW (wComp vs b w ce ee)) := by
  subst hv
  exact PE.conv (pe_lc hc hN (pi_list hi) ok hg ht he hs) fun σ H Q q => lc_go ho σ H Q q
theorem se_lcT {b : Tg} {g : TG} (hc : X.calm = true) (hN : X.N.Nodup) (hi : PE X iter (tm X.K X.mg WW w)) (ok : BlkOk X.N X.env.scope scope own) (hv : own.map (·.2) = vs) (hg : Blk X scope fun Y => PG Y tg g)
    (ho : ∀ φ ρ σ0 H d v (k : DEnv → Prop) (Q : L2.St → Hp → Prop), RE X.K φ H ρ (L2.wipe σ0 vs) → RD X.K φ H d v → b d ρ k → (∀ ρ' σ', k ρ' → RE X.K φ H ρ' σ' → L2.wipe σ' vs = L2.wipe σ0 vs → Q σ' H) → g v (L2.wipe σ0 vs) H Q)
    (ht : Blk X scope fun Y => PTs Y ifs (ttm X.K X.mg NoW ce)) (he : Blk X scope fun Y => PE Y elt (tm X.K X.mg NoW ee)) (hs : ∀ x, foldedSetIterable iter X.env x = pure x := by intro _; rfl) :
    PE X (.ListComp elt [⟨tg, iter, ifs, 0⟩] scope pos) (tm X.K X.mg WW (wCompT vs b w ce ee)) := by
  subst hv
  exact PE.conv (pe_lc hc hN (pi_tup hi) ok hg ht he hs) fun σ H Q q => lc_goT ho σ H Q q
theorem se_lcR1 {b : Tg} {g : TG} {p p3 : Pos} (hc : X.calm = true) (hN : X.N.Nodup) (hgl : Gl X "range") (hm : X.mg "range" = none) (hi : PE X a (tm X.K X.mg WW w)) (ok : BlkOk X.N X.env.scope scope own) (hv : own.map (·.2) = vs) (hg : Blk X scope fun Y => PG Y tg g)
    (ho : ∀ φ ρ σ0 H d v (k : DEnv → Prop) (Q : L2.St → Hp → Prop), RE X.K φ H ρ (L2.wipe σ0 vs) → RD X.K φ H d v → b d ρ k → (∀ ρ' σ', k ρ' → RE X.K φ H ρ' σ' → L2.wipe σ' vs = L2.wipe σ0 vs → Q σ' H) → g v (L2.wipe σ0 vs) H Q)
    (ht : Blk X scope fun Y => PTs Y ifs (ttm X.K X.mg NoW ce)) (he : Blk X scope fun Y => PE Y elt (tm X.K X.mg NoW ee)) (hst : starEach [a] X.env = [(false, eval a X.env)] := by rfl) (hst2 : starEach [a] X.env = (false, eval a X.env) :: starEach [] X.env := by rfl)
    (hs : ∀ x, foldedSetIterable (.Call (.Name "range" p) [a] [] p3) X.env x = pure x := by intro _; rfl) :
    PE X (.ListComp elt [⟨tg, .Call (.Name "range" p) [a] [] p3, ifs, 0⟩] scope pos) (tm X.K X.mg WW (wCompR1 vs b w ce ee)) := by
  subst hv
  exact PE.conv (pe_lc hc hN (pi_range1 hgl hm (pa_cons hi pa_nil hst2) hst) ok hg ht he hs) fun σ H Q q => lc_goR1 ho σ H Q q
theorem se_lcR2 {b : Tg} {g : TG} {p p3 : Pos} {e2 : Expr} {wu : W} (hc : X.calm = true) (hN : X.N.Nodup) (hgl : Gl X "range") (hm : X.mg "range" = none) (hi : PE X a (tm X.K X.mg WW w)) (hi2 : PE X e2 (tm X.K X.mg WW wu)) (ok : BlkOk X.N X.env.scope scope own) (hv : own.map (·.2) = vs) (hg : Blk X scope fun Y => PG Y tg g)
    (ho : ∀ φ ρ σ0 H d v (k : DEnv → Prop) (Q : L2.St → Hp → Prop), RE X.K φ H ρ (L2.wipe σ0 vs) → RD X.K φ H d v → b d ρ k → (∀ ρ' σ', k ρ' → RE X.K φ H ρ' σ' → L2.wipe σ' vs = L2.wipe σ0 vs → Q σ' H) → g v (L2.wipe σ0 vs) H Q)
    (ht : Blk X scope fun Y => PTs Y ifs (ttm X.K X.mg NoW ce)) (he : Blk X scope fun Y => PE Y elt (tm X.K X.mg NoW ee))
    (hst : starEach [a, e2] X.env = [(false, eval a X.env), (false, eval e2 X.env)] := by rfl) (hst2 : starEach [e2] X.env = [(false, eval e2 X.env)] := by rfl)
    (hst3 : starEach [a, e2] X.env = (false, eval a X.env) :: starEach [e2] X.env := by rfl) (hst4 : starEach [e2] X.env = (false, eval e2 X.env) :: starEach [] X.env := by rfl)
    (hs : ∀ x, foldedSetIterable (.Call (.Name "range" p) [a, e2] [] p3) X.env x = pure x := by intro _; rfl) :
    PE X (.ListComp elt [⟨tg, .Call (.Name "range" p) [a, e2] [] p3, ifs, 0⟩] scope pos) (tm X.K X.mg WW (wCompR2 vs b w wu ce ee)) := by
  subst hv
  exact PE.conv (pe_lc hc hN (pi_range2 hgl hm (pa_cons hi (pa_cons hi2 pa_nil hst4) hst3) hst hst2) ok hg ht he hs) fun σ H Q q => lc_goR2 ho σ H Q q
/-- name = [..], by any of them -/
theorem ss_setLc {i : Nat} {y : Str} {py spos : Pos} {g : TG} {wi : TI} (hc : X.calm = true) (hN : X.N.Nodup) (hy : X.N[i]? = some y) (hyl : X.env.scope.names.lookup y = some .local)
    (hsw : swapsWith (.ListComp elt [⟨tg, iter, ifs, 0⟩] scope pos) (some (.Name y py)) spos.line X.env = pure true) (hi : PI X tg iter wi) (ok : BlkOk X.N X.env.scope scope own) (hv : own.map (·.2) = vs) (hg : Blk X scope fun Y => PG Y tg g)
    (hgo : ∀ σ H Q, tm X.K X.mg WW w σ H Q → tLc wi g (ttm X.K X.mg NoW ce) (tm X.K X.mg NoW ee) vs σ H Q)
    (ht : Blk X scope fun Y => PTs Y ifs (ttm X.K X.mg NoW ce)) (he : Blk X scope fun Y => PE Y elt (tm X.K X.mg NoW ee)) (hs : ∀ x, foldedSetIterable iter X.env x = pure x := by intro _; rfl) :
    PS X (.Assign [.Name y py] (.ListComp elt [⟨tg, iter, ifs, 0⟩] scope pos) spos) (tsm X.K X.mg WW (wsSet i w)) := by
  subst hv
  refine PS.conv (L2.ps_setLc hc hN hy hyl hsw hi ok hg ht he hs) fun D σ H q => ?_
  refine hgo σ H _ (ts_ex0 (k := fun d => fun ρ S D E => D.nx (ρ.set i (some d)) S) q fun d v φ1 ρ S1 H1 rd ⟨rs, re, D', E', hw, hn, hr, hx⟩ => hn _ _ hw _ _ _ Ext.refl rs (re.set rd i))

/-! ### built-ins -/
def bLen : BPf
  | [d] => pLen d
  | _ => fail
def bAbs : BPf
  | [.int i] => ret (.int (if i < 0 then -i else i))
  | _ => fail
def bMax : BPf
  | [.int i, .int j] => ret (.int (if j > i then j else i))
  | _ => fail
def bMin : BPf
  | [.int i, .int j] => ret (.int (if j < i then j else i))
  | _ => fail
def bInt : BPf
  | [.int i] => ret (.int i)
  | [.bl k] => ret (.int (if k then 1 else 0))
  | _ => fail
def bBool : BPf
  | [.int i] => ret (.bl (i != 0))
  | [.bl k] => ret (.bl k)
  | _ => fail
def bStr : BPf
  | [.int i] => fun _ S Q _ => i.natAbs.log2 < 1920 ∧ Q (.str (toString i)) S
  | _ => fail
def bList : BPf
  | [.ref n] => fun _ S Q _ => ∃ xs, S[n]? = some (.lst xs) ∧ Q (.ref S.length) (S ++ [.lst xs])
  | [.tup xs] => fun _ S Q _ => xs.length ≤ 1000 ∧ Q (.ref S.length) (S ++ [.lst xs])
  | _ => fail
def bTuple : BPf
  | [.ref n] => fun _ S Q _ => ∃ xs, S[n]? = some (.lst xs) ∧ Q (.tup xs) S
  | [.tup xs] => ret (.tup xs)
  | _ => fail
end
section
variable {K : PySem.W.Frag} {mg : Str → Option Value} {WW : WX} {φ : List Addr} {S : Store} {H : Hp} {vs : List V} {d d2 : D}
theorem RDs.one (h : RDs K φ H [d] vs) : ∃ v, vs = [v] ∧ RD K φ H d v := by
  obtain ⟨v, r, rfl, h1, h2⟩ := h.inv
  have : r = [] := by simpa [RDs] using h2
  subst this; exact ⟨v, rfl, h1⟩
theorem RDs.two (h : RDs K φ H [d, d2] vs) : ∃ v w, vs = [v, w] ∧ RD K φ H d v ∧ RD K φ H d2 w := by
  obtain ⟨v, r, rfl, h1, h2⟩ := h.inv
  obtain ⟨w, rfl, h3⟩ := h2.one
  exact ⟨v, w, rfl, h1, h3⟩
theorem pb_len : PrB K mg WW bLen (fun xs H Q => ∃ x n, xs = [x] ∧ LenV K x H n ∧ Q (.int n) H) := by
  intro φ ρ S σ H Q ds vs r h
  unfold bLen at h
  split at h
  · obtain ⟨v, rfl, q0⟩ := r.one
    unfold pLen at h
    split at h
    · obtain ⟨rs, re, Q', E', ⟨xs, h1, hq⟩, hn, hx⟩ := h
      obtain ⟨a1, v1, rfl, _, e1, q1, _⟩ := rs.lst h1 q0
      exact ⟨_, xs.length, rfl, .inl ⟨v1, SqL.of e1, q1.length⟩, hn _ _ hq _ _ _ Ext.refl rs RD.int⟩
    · simp only [RD] at q0
      obtain ⟨a1, v1, rfl, e1, q1⟩ := q0
      exact ⟨_, _, rfl, .inr ⟨v1, SqT.of e1, q1.length⟩, h.ret RD.int⟩
    · simp only [RD] at q0
      obtain ⟨a1, v1, rfl, e1, q1⟩ := q0
      exact ⟨_, _, rfl, .inl ⟨v1, e1.seq, q1.length⟩, h.ret RD.int⟩
    · obtain ⟨rs, re, Q', E', ⟨hz, hq⟩, hn, hx⟩ := h
      rw [q0.str_inv]
      exact ⟨_, _, rfl, ⟨hz, rfl⟩, hn _ _ hq _ _ _ Ext.refl rs RD.int⟩
    · exact h.no.elim
  · exact h.no.elim
theorem pb_abs : PrB K mg WW bAbs (fun xs H Q => ∃ i, xs = [.int i] ∧ Q (.int (if i < 0 then -i else i)) H) := by
  intro φ ρ S σ H Q ds vs r h
  unfold bAbs at h
  split at h
  · obtain ⟨v, rfl, q0⟩ := r.one
    rw [q0.int_inv]
    exact ⟨_, rfl, h.ret RD.int⟩
  · exact h.no.elim
theorem pb_max : PrB K mg WW bMax (fun xs H Q => ∃ i j, xs = [.int i, .int j] ∧ Q (.int (if j > i then j else i)) H) := by
  intro φ ρ S σ H Q ds vs r h
  unfold bMax at h
  split at h
  · obtain ⟨v, w, rfl, r1, r2⟩ := r.two
    rw [r1.int_inv, r2.int_inv]
    exact ⟨_, _, rfl, h.ret RD.int⟩
  · exact h.no.elim
theorem pb_min : PrB K mg WW bMin (fun xs H Q => ∃ i j, xs = [.int i, .int j] ∧ Q (.int (if j < i then j else i)) H) := by
  intro φ ρ S σ H Q ds vs r h
  unfold bMin at h
  split at h
  · obtain ⟨v, w, rfl, r1, r2⟩ := r.two
    rw [r1.int_inv, r2.int_inv]
    exact ⟨_, _, rfl, h.ret RD.int⟩
  · exact h.no.elim
theorem pb_int : PrB K mg WW bInt (fun xs H Q => (∃ i, xs = [.int i] ∧ Q (.int i) H) ∨ ∃ k, xs = [.bl k] ∧ Q (.int (if k then 1 else 0)) H) := by
  intro φ ρ S σ H Q ds vs r h
  unfold bInt at h
  split at h
  · obtain ⟨v, rfl, q0⟩ := r.one
    rw [q0.int_inv]
    exact .inl ⟨_, rfl, h.ret RD.int⟩
  · obtain ⟨v, rfl, q0⟩ := r.one
    rw [q0.bl_inv]
    exact .inr ⟨_, rfl, h.ret RD.int⟩
  · exact h.no.elim
theorem pb_bool : PrB K mg WW bBool (fun xs H Q => (∃ i, xs = [.int i] ∧ Q (.bl (i != 0)) H) ∨ ∃ k, xs = [.bl k] ∧ Q (.bl k) H) := by
  intro φ ρ S σ H Q ds vs r h
  unfold bBool at h
  split at h
  · obtain ⟨v, rfl, q0⟩ := r.one
    rw [q0.int_inv]
    exact .inl ⟨_, rfl, h.ret RD.bl⟩
  · obtain ⟨v, rfl, q0⟩ := r.one
    rw [q0.bl_inv]
    exact .inr ⟨_, rfl, h.ret RD.bl⟩
  · exact h.no.elim
theorem pb_str : PrB K mg WW bStr (fun xs H Q => ∃ i, xs = [.int i] ∧ i.natAbs.log2 < 1920 ∧ Q (.str (toString i)) H) := by
  intro φ ρ S σ H Q ds vs r h
  unfold bStr at h
  split at h
  · obtain ⟨v, rfl, q0⟩ := r.one
    rw [q0.int_inv]
    obtain ⟨rs, re, Q', E', ⟨hz, hq⟩, hn, hx⟩ := h
    exact ⟨_, rfl, hz, hn _ _ hq _ _ _ Ext.refl rs RD.str⟩
  · exact h.no.elim
theorem pb_list : PrB K mg WW bList (fun xs H Q => ∃ p ys, xs = [.ref p] ∧ (SqL K H p ys ∨ SqT K H p ys) ∧ ∀ l, H l = none → Q (.ref l) (upd H l (.lst ys))) := by
  intro φ ρ S σ H Q ds vs r h
  unfold bList at h
  split at h
  · obtain ⟨v, rfl, q0⟩ := r.one
    obtain ⟨rs, re, Q', E', ⟨xs, h1, hq⟩, hn, hx⟩ := h
    obtain ⟨a1, v1, rfl, _, e1, q1, z⟩ := rs.lst h1 q0
    exact ⟨a1, v1, rfl, .inl (SqL.of e1), fun p hp => mk_list rs q1 z hn hq p hp⟩
  · obtain ⟨v, rfl, q0⟩ := r.one
    obtain ⟨rs, re, Q', E', ⟨hz, hq⟩, hn, hx⟩ := h
    simp only [RD] at q0
    obtain ⟨a1, v1, rfl, e1, q1⟩ := q0
    exact ⟨a1, v1, rfl, .inr (SqT.of e1), fun p hp => mk_list rs q1 (Nat.le_of_lt (small1000 hz)) hn hq p hp⟩
  · exact h.no.elim
theorem pb_tuple : PrB K mg WW bTuple (fun xs H Q => ∃ p ys, xs = [.ref p] ∧ ((SqL K H p ys ∧ ∀ l, H l = none → Q (.ref l) (upd H l (.tup ys))) ∨ (SqT K H p ys ∧ Q (.ref p) H))) := by
  intro φ ρ S σ H Q ds vs r h
  unfold bTuple at h
  split at h
  · obtain ⟨v, rfl, q0⟩ := r.one
    obtain ⟨rs, re, Q', E', ⟨xs, h1, hq⟩, hn, hx⟩ := h
    obtain ⟨a1, v1, rfl, _, e1, q1, z⟩ := rs.lst h1 q0
    exact ⟨a1, v1, rfl, .inl ⟨SqL.of e1, fun p hp => mk_tup rs q1 hn hq p hp⟩⟩
  · obtain ⟨v, rfl, q0⟩ := r.one
    have r' := q0
    simp only [RD] at q0
    obtain ⟨a1, v1, rfl, e1, q1⟩ := q0
    exact ⟨a1, v1, rfl, .inr ⟨SqT.of e1, h.ret r'⟩⟩
  · exact h.no.elim
end
/-! ### isinstance with a built-in class -/
def tyName (S : Store) : D → Option String
  | .non => some "NoneType"
  | .bl _ => some "bool"
  | .int _ => some "int"
  | .str _ => some "str"
  | .tup _ => some "tuple"
  | .rol _ => none
  | .adr _ => none
  | .ref n => match S[n]? with
    | some (.lst _) => some "list"
    | some (.dct _) => some "dict"
    | _ => none
def isi (a b : String) : Bool := decide (a = b) || (decide (a = "bool") && decide (b = "int"))
def pIsi (T : String) (d : D) : W := fun _ S Q _ => ∃ a, tyName S d = some a ∧ Q (.bl (isi a T)) S
theorem kit_isi : ∀ a ∈ (["NoneType", "bool", "int", "str", "tuple", "list", "dict"] : List String), ∀ b ∈ (["bool", "int", "str", "tuple", "list", "dict"] : List String), kitB a b = some (isi a b) := by decide +kernel
theorem tyName_ok {K : PySem.W.Frag} {mg : Str → Option Value} {φ : List Addr} {S : Store} {H : Hp} {d : D} {v : V} {a : String} (rs : RS K mg φ S H) (r : RD K φ H d v) (h : tyName S d = some a) : TyX K H v (.type a) ∧ a ∈ (["NoneType", "bool", "int", "str", "tuple", "list", "dict"] : List String) := by
  cases d with
  | non => cases h; rw [r.non_inv]; exact ⟨.base .non, by decide⟩
  | bl b => cases h; rw [r.bl_inv]; exact ⟨.base (.bl b), by decide⟩
  | int b => cases h; rw [r.int_inv]; exact ⟨.base (.int b), by decide⟩
  | str b => cases h; rw [r.str_inv]; exact ⟨.base (.str b), by decide⟩
  | tup ds =>
    cases h
    simp only [RD] at r
    obtain ⟨a1, v1, rfl, e1, q1⟩ := r
    exact ⟨.base (.tup e1), by decide⟩
  | rol ds => cases h
  | adr a => cases h
  | ref n =>
    simp only [tyName] at h
    split at h
    · cases h
      obtain ⟨a1, v1, rfl, _, e1, q1, z⟩ := rs.lst (by assumption) r
      exact ⟨.base (.lst e1), by decide⟩
    · cases h
      rename_i kvs hk
      simp only [RD] at r
      obtain ⟨a1, ha, rfl⟩ := r
      obtain ⟨vs, e1, _⟩ := rs.cell n _ a1 hk ha
      exact ⟨.base (.dK e1), by decide⟩
    · cases h
section
variable {X : Cx} {WW : WX} {a e o : Expr} {es : List Expr} {pos p p2 : Pos} {wa : W}
theorem se_isi {T : String} {x : Str} (hT : T ∈ (["bool", "int", "str", "tuple", "list", "dict"] : List String)) (hg : Gl X "isinstance") (hm : X.mg "isinstance" = none) (hgT : Gl X x) (hmT : X.mg x = none) (hvT : bootBuiltins x = some (.type T)) (ha : PE X a (tm X.K X.mg WW wa))
    (hn : x ≠ "__name__" := by decide) (hd : (x == ("__debug__" : Str)) = false := by decide)
    (hs1 : starEach [a, .Name x p2] X.env = (false, eval a X.env) :: starEach [.Name x p2] X.env := by rfl) (hs2 : starEach [.Name x p2] X.env = (false, eval (.Name x p2) X.env) :: starEach [] X.env := by rfl) (hpl : (backTo pos (starEach [.Name x p2] X.env)).any (·.1) = false := by rfl) :
    PE X (.Call (.Name "isinstance" p) [a, .Name x p2] [] pos) (tm X.K X.mg WW (wOp1 (pIsi T) wa)) := by
  refine PE.conv (pe_callB call_isi hg hm PyProof.Rows.boot_isinstance (pa_cons ha (pa_cons (pe_bltn (v := .ty T) hgT hmT hvT rfl hn hd) pa_nil hs2) hs1) (by decide) (by decide) hs1 hpl) fun σ H Q q => ?_
  refine tm_bind q fun d v φ ρ S H1 rd ⟨rs, re, Q', E', ⟨a, ht, hq⟩, hn, hx⟩ => ?_
  obtain ⟨ty, hm⟩ := tyName_ok rs rd ht
  exact ⟨v, .ty T, _, _, isi a T, rfl, .ty T, ty, kit_ty (kit_isi a hm T hT), hn _ _ hq _ _ _ Ext.refl rs RD.bl⟩
end

/-! ### methods of built-in types -/
def isT (T : String) (S : Store) : D → Prop
  | .ref n => (T = "list" ∧ ∃ xs, S[n]? = some (.lst xs)) ∨ (T = "dict" ∧ ∃ ks, S[n]? = some (.dct ks))
  | .str _ => T = "str"
  | _ => False
def wM (T : String) (m : D → List D → W) (wo : W) (ws : List W) : W := fun ρ S Q E => wo ρ S (fun d S1 => isT T S1 d ∧ evWs ws ρ S1 (fun ds S2 => m d ds ρ S2 Q E) E) E
def PrM (K : PySem.W.Frag) (mg : Str → Option Value) (WW : WX) (m : D → List D → W) (r : V → List V → Hp → VK → Prop) : Prop := ∀ φ ρ S σ H Q d ds x vs, RD K φ H d x → RDs K φ H ds vs → tmA K mg WW φ ρ S (m d ds) σ H Q → r x vs H Q
theorem isT_ok {K : PySem.W.Frag} {mg : Str → Option Value} {φ : List Addr} {S : Store} {H : Hp} {d : D} {v : V} {T : String} (rs : RS K mg φ S H) (r : RD K φ H d v) (h : isT T S d) : tyV K T v H := by
  cases d with
  | ref n =>
    rcases h with ⟨rfl, xs, h⟩ | ⟨rfl, ks, h⟩
    · obtain ⟨a1, v1, rfl, _, e1, q1, z⟩ := rs.lst h r
      exact .inl ⟨rfl, _, SqL.of e1⟩
    · simp only [RD] at r
      obtain ⟨a1, ha, rfl⟩ := r
      obtain ⟨vs, e1, _⟩ := rs.cell n _ a1 h ha
      exact .inr (.inr (.inl ⟨rfl, .inl ⟨vs, e1⟩⟩))
  | str x => rw [r.str_inv]; exact h
  | _ => exact h.elim
section
variable {X : Cx} {WW : WX} {a e o : Expr} {es : List Expr} {pos p p2 apos cpos : Pos} {wo : W} {ws : List W} {T name id : String} {r : V → List V → Hp → VK → Prop} {m : D → List D → W}
theorem wM_go (hm : PrM X.K X.mg WW m r) (σ : L2.St) (H : Hp) (Q : VK) (q : tm X.K X.mg WW (wM T m wo ws) σ H Q) : tBM X.K T r (tm X.K X.mg WW wo) (tma X.K X.mg WW ws) σ H Q := by
  obtain ⟨φ, ρ, S, rs, re, Q', E', hw, hn, hx⟩ := q
  refine ⟨φ, ρ, S, rs, re, _, E', hw, fun d S1 ⟨ht, h1⟩ v φ1 H1 x1 rs1 rd1 => ⟨isT_ok rs1 rd1 ht, ?_⟩, hx⟩
  refine ⟨φ1, ρ, S1, rs1, re.mono x1, _, E', h1, fun ds S2 h2 vs φ2 H2 x2 rs2 rd2 => ?_, fun c ρ2 S2 a u φ2 H2 σ2 x => hx c ρ2 S2 a u φ2 H2 σ2 (x1.trans x)⟩
  exact hm φ2 ρ S2 σ H2 Q d ds v vs (rd1.mono x2) rd2 ⟨rs2, (re.mono x1).mono x2, Q', E', h2, fun d3 S3 a v3 φ3 H3 x => hn d3 S3 a v3 φ3 H3 ((x1.trans x2).trans x), fun c ρ2 S2 a u φ2 H2 σ2 x => hx c ρ2 S2 a u φ2 H2 σ2 ((x1.trans x2).trans x)⟩
theorem wM_go0 (hm : PrM X.K X.mg WW m r) (σ : L2.St) (H : Hp) (Q : VK) (q : tm X.K X.mg WW (wM T m wo []) σ H Q) : tBM0 X.K T r (tm X.K X.mg WW wo) σ H Q := by
  obtain ⟨φ, ρ, S, rs, re, Q', E', hw, hn, hx⟩ := q
  refine ⟨φ, ρ, S, rs, re, _, E', hw, fun d S1 ⟨ht, h1⟩ v φ1 H1 x1 rs1 rd1 => ⟨isT_ok rs1 rd1 ht, ?_⟩, hx⟩
  exact hm φ1 ρ S1 σ H1 Q d [] v [] rd1 RDs.nil ⟨rs1, re.mono x1, Q', E', h1, fun d3 S3 a v3 φ3 H3 x => hn d3 S3 a v3 φ3 H3 (x1.trans x), fun c ρ2 S2 a u φ2 H2 σ2 x => hx c ρ2 S2 a u φ2 H2 σ2 (x1.trans x)⟩
end
def mAppend : D → List D → W
  | .ref n, [d] => fun _ S Q _ => ∃ xs, S[n]? = some (.lst xs) ∧ xs.length < sizeLine ∧ Q .non (S.set n (.lst (xs ++ [d])))
  | _, _ => fail
def mPop : D → List D → W
  | .ref n, [] => fun _ S Q _ => ∃ xs d, S[n]? = some (.lst xs) ∧ xs[xs.length - 1]? = some d ∧ Q d (S.set n (.lst xs.dropLast))
  | _, _ => fail
def mPopAt : D → List D → W
  | .ref n, [.int i] => fun _ S Q _ => ∃ xs d k, S[n]? = some (.lst xs) ∧ -(2 ^ 63) ≤ i ∧ i < 2 ^ 63 ∧ seqIndex? i xs.length = some k ∧ xs[k]? = some d ∧ Q d (S.set n (.lst (xs.eraseIdx k)))
  | _, _ => fail
def mClear : D → List D → W
  | .ref n, [] => fun _ S Q _ => ∃ xs, S[n]? = some (.lst xs) ∧ Q .non (S.set n (.lst []))
  | _, _ => fail
section
variable {K : PySem.W.Frag} {mg : Str → Option Value} {WW : WX}
theorem wr_list {Q' : PQ} {φ : List Addr} {S : Store} {H : Hp} {Q : VK} {n : Nat} {a : Addr} {d : D} {v : V} {xs ds : List D} {vs : List V} (rs : RS K mg φ S H) (ha : φ[n]? = some a) (r : RDs K φ H ds vs) (hl : ds.length ≤ sizeLine) (rv : RD K φ H d v)
    (hn : ∀ d S', Q' d S' → ∀ v φ' H', Ext φ H φ' H' → RS K mg φ' S' H' → RD K φ' H' d v → Q v H') (hq : Q' d (S.set n (.lst ds))) : Q v (upd H a (.lst vs)) := by
  have ex := Ext.write (o := .lst vs) rs (List.mem_of_getElem? ha)
  exact hn _ _ hq _ _ _ ex (rs.write ha ⟨_, upd_same, r.mono ex, hl⟩) (rv.mono ex)
theorem pm_append : PrM K mg WW mAppend rAppend := by
  intro φ ρ S σ H Q d ds x vs r1 r2 h
  unfold mAppend at h
  split at h
  · obtain ⟨v, rfl, r⟩ := r2.one
    obtain ⟨rs, re, Q', E', ⟨xs, h1, hz, hq⟩, hn, hx⟩ := h
    obtain ⟨a1, v1, rfl, ha, e1, q1, z⟩ := rs.lst h1 r1
    refine ⟨a1, v1, v, rfl, rfl, e1, by rw [← q1.length]; exact hz, ?_⟩
    exact wr_list (xs := xs) rs ha (q1.append (RDs.cons r RDs.nil)) (by simp; omega) RD.non hn hq
  · exact h.no.elim
theorem pm_pop : PrM K mg WW mPop rPop := by
  intro φ ρ S σ H Q d ds x vs r1 r2 h
  unfold mPop at h
  split at h
  · have : vs = [] := by simpa [RDs] using r2
    subst this
    obtain ⟨rs, re, Q', E', ⟨xs, d, h1, hd, hq⟩, hn, hx⟩ := h
    obtain ⟨a1, v1, rfl, ha, e1, q1, z⟩ := rs.lst h1 r1
    obtain ⟨y, hy, ry⟩ := q1.get hd
    refine ⟨a1, v1, y, rfl, rfl, e1, by rw [← q1.length]; exact hy, ?_⟩
    exact wr_list (xs := xs) rs ha q1.dropLast (by simp; omega) ry hn hq
  · exact h.no.elim
theorem pm_popAt : PrM K mg WW mPopAt rPopAt := by
  intro φ ρ S σ H Q d ds x vs r1 r2 h
  unfold mPopAt at h
  split at h
  · obtain ⟨v, rfl, r⟩ := r2.one
    rw [r.int_inv]
    obtain ⟨rs, re, Q', E', ⟨xs, d, k, h1, hl, hh, hk, hd, hq⟩, hn, hx⟩ := h
    obtain ⟨a1, v1, rfl, ha, e1, q1, z⟩ := rs.lst h1 r1
    obtain ⟨y, hy, ry⟩ := q1.get hd
    refine ⟨a1, v1, _, k, y, rfl, rfl, e1, hl, hh, by rw [← q1.length]; exact hk, hy, ?_⟩
    exact wr_list (xs := xs) rs ha (q1.eraseIdx k) (by rw [List.length_eraseIdx]; split <;> omega) ry hn hq
  · exact h.no.elim
theorem pm_clear : PrM K mg WW mClear rClear := by
  intro φ ρ S σ H Q d ds x vs r1 r2 h
  unfold mClear at h
  split at h
  · have : vs = [] := by simpa [RDs] using r2
    subst this
    obtain ⟨rs, re, Q', E', ⟨xs, h1, hq⟩, hn, hx⟩ := h
    obtain ⟨a1, v1, rfl, ha, e1, q1, z⟩ := rs.lst h1 r1
    exact ⟨a1, v1, rfl, rfl, e1, wr_list (xs := xs) rs ha RDs.nil (Nat.zero_le _) RD.non hn hq⟩
  · exact h.no.elim
end
section
variable {X : Cx} {WW : WX} {e o : Expr} {es : List Expr} {apos cpos : Pos} {wo wa : W} {ws : List W}
theorem se_append (ho : PE X o (tm X.K X.mg WW wo)) (ha : PE X e (tm X.K X.mg WW wa)) (hbase : attributeBase o "append" X.env (eval o X.env) = eval o X.env := by rfl)
    (hs0 : starEach [e] X.env = (false, eval e X.env) :: starEach [] X.env := by rfl)
    (hfew : ((backTo cpos (starEach [e] X.env)).all (fun x => !x.1) && (backToKw cpos (keywordEach [] X.env)).all (fun x => x.1.isSome) && decide (([e] : List Expr).length + ([] : List Keyword).length + (if ([] : List Keyword).isEmpty then 0 else 1) < 30)) = true := by rfl)
    (hline : (apos.endLine == cpos.line) = true := by rfl) (hplain : (backTo cpos (starEach [] X.env)).any (·.1) = false := by rfl) : PE X (.Call (.Attribute o "append" apos) [e] [] cpos) (tm X.K X.mg WW (wM "list" mAppend wo [wa])) :=
  PE.conv (pe_bm PySem.F.plainAttrs_list PySem.F.slot_list_append PySem.F.type_list_append mt_append ho (sa_cons ha sa_nil hs0) hbase hfew hline hs0 hplain) (wM_go pm_append)
theorem se_popAt (ho : PE X o (tm X.K X.mg WW wo)) (ha : PE X e (tm X.K X.mg WW wa)) (hbase : attributeBase o "pop" X.env (eval o X.env) = eval o X.env := by rfl)
    (hs0 : starEach [e] X.env = (false, eval e X.env) :: starEach [] X.env := by rfl)
    (hfew : ((backTo cpos (starEach [e] X.env)).all (fun x => !x.1) && (backToKw cpos (keywordEach [] X.env)).all (fun x => x.1.isSome) && decide (([e] : List Expr).length + ([] : List Keyword).length + (if ([] : List Keyword).isEmpty then 0 else 1) < 30)) = true := by rfl)
    (hline : (apos.endLine == cpos.line) = true := by rfl) (hplain : (backTo cpos (starEach [] X.env)).any (·.1) = false := by rfl) : PE X (.Call (.Attribute o "pop" apos) [e] [] cpos) (tm X.K X.mg WW (wM "list" mPopAt wo [wa])) :=
  PE.conv (pe_bm PySem.F.plainAttrs_list PySem.F.slot_list_pop PySem.F.type_list_pop mt_popAt ho (sa_cons ha sa_nil hs0) hbase hfew hline hs0 hplain) (wM_go pm_popAt)
theorem se_pop (ho : PE X o (tm X.K X.mg WW wo)) (hbase : attributeBase o "pop" X.env (eval o X.env) = eval o X.env := by rfl) (hline : (apos.endLine == cpos.line) = true := by rfl) : PE X (.Call (.Attribute o "pop" apos) [] [] cpos) (tm X.K X.mg WW (wM "list" mPop wo [])) :=
  PE.conv (pe_bm0 PySem.F.plainAttrs_list PySem.F.slot_list_pop PySem.F.type_list_pop mt_pop ho hbase hline) (wM_go0 pm_pop)
theorem se_clear (ho : PE X o (tm X.K X.mg WW wo)) (hbase : attributeBase o "clear" X.env (eval o X.env) = eval o X.env := by rfl) (hline : (apos.endLine == cpos.line) = true := by rfl) : PE X (.Call (.Attribute o "clear" apos) [] [] cpos) (tm X.K X.mg WW (wM "list" mClear wo [])) :=
  PE.conv (pe_bm0 PySem.F.plainAttrs_list PySem.F.slot_list_clear PySem.F.type_list_clear mt_clear ho hbase hline) (wM_go0 pm_clear)
end
/-! ### tests by their operator -/
section
variable {X : Cx} {WW : WX} {a b c e : Expr} {es : List Expr} {pos p : Pos} {wa wb wc : W} {ws : List W}
theorem st_lt (ha : PE X a (tm X.K X.mg WW wa)) (hb : PE X b (tm X.K X.mg WW wb)) : PT X (.Compare a [.Lt] [b] pos) (ttm X.K X.mg WW (wOp pLt wa wb)) := st_cmp op_lt pr_lt ha hb (nomark _)
theorem st_le (ha : PE X a (tm X.K X.mg WW wa)) (hb : PE X b (tm X.K X.mg WW wb)) : PT X (.Compare a [.LtE] [b] pos) (ttm X.K X.mg WW (wOp pLe wa wb)) := st_cmp op_le pr_le ha hb (nomark _)
theorem st_gt (ha : PE X a (tm X.K X.mg WW wa)) (hb : PE X b (tm X.K X.mg WW wb)) : PT X (.Compare a [.Gt] [b] pos) (ttm X.K X.mg WW (wOp pGt wa wb)) := st_cmp op_gt pr_gt ha hb (nomark _)
theorem st_ge (ha : PE X a (tm X.K X.mg WW wa)) (hb : PE X b (tm X.K X.mg WW wb)) : PT X (.Compare a [.GtE] [b] pos) (ttm X.K X.mg WW (wOp pGe wa wb)) := st_cmp op_ge pr_ge ha hb (nomark _)
theorem st_eq (hu : X.A.units + 64 < cLine) (ha : PE X a (tm X.K X.mg WW wa)) (hb : PE X b (tm X.K X.mg WW wb)) : PT X (.Compare a [.Eq] [b] pos) (ttm X.K X.mg WW (wOp pEq wa wb)) := st_cmp (op_eq.or (op_eqD hu)) pr_eq ha hb (nomark _)
theorem st_ne (hu : X.A.units + 64 < cLine) (ha : PE X a (tm X.K X.mg WW wa)) (hb : PE X b (tm X.K X.mg WW wb)) : PT X (.Compare a [.NotEq] [b] pos) (ttm X.K X.mg WW (wOp pNe wa wb)) := st_cmp (op_ne.or (op_neD hu)) pr_ne ha hb (nomark _)
theorem st_isB (ha : PE X a (tm X.K X.mg WW wa)) (hb : PE X b (tm X.K X.mg WW wb)) : PT X (.Compare a [.Is] [b] pos) (ttm X.K X.mg WW (wOp pIsB wa wb)) := st_cmp op_isBl pr_isB ha hb (nomark _)
theorem st_notB (ha : PE X a (tm X.K X.mg WW wa)) (hb : PE X b (tm X.K X.mg WW wb)) : PT X (.Compare a [.IsNot] [b] pos) (ttm X.K X.mg WW (wOp pNotB wa wb)) := st_cmp op_notBl pr_notB ha hb (nomark _)
theorem st_isN {j : Nat} (ha : PE X a (tm X.K X.mg WW wa)) : PT X (.Compare a [.Is] [.Constant .none j p] pos) (ttm X.K X.mg WW (wOp1 pIsN wa)) := by
  refine PT.conv (pt_cmp (pc_isN ha) rfl) fun σ H Q q => ?_
  refine tm_bind q fun d v φ ρ S H1 rd q1 => ?_
  rw [isNon_iff rd]
  exact q1.ret RD.bl
theorem st_notN {j : Nat} (ha : PE X a (tm X.K X.mg WW wa)) : PT X (.Compare a [.IsNot] [.Constant .none j p] pos) (ttm X.K X.mg WW (wOp1 pNotN wa)) := by
  refine PT.conv (pt_cmp (pc_notN ha) rfl) fun σ H Q q => ?_
  refine tm_bind q fun d v φ ρ S H1 rd q1 => ?_
  rw [isNon_iff rd]
  exact q1.ret RD.bl
/-! ### the defs of the text -/
def Cal (P : Program) (w : World) (K : PySem.W.Frag) (mg : Str → Option Value) (base : Heap) (x : Str) (k : Nat) (ps : List Str) (sp : SPf) : Prop :=
  ∃ f fd, FnOk P w K mg base (L2.CX P w) k f fd ps (spOf K mg sp) ∧ mg x = some (.ref f) ∧ PySem.W.keepIn K (.ref f) = true ∧ Binds K fd ps []
theorem se_callC {x : Str} {j k : Nat} {ps : List Str} {sp : SPf} (c : Cal X.prog X.w X.K X.mg X.base x k ps sp) (hr : Room j X.A) (hk : k ≤ j) (hg : Gl X x) (tk : Takes X WW) (ha : PA X (e :: es) (tma X.K X.mg WW ws)) (hdb : (x == ("__debug__" : Str)) = false := by decide)
    (he : starEach (e :: es) X.env = (false, eval e X.env) :: starEach es X.env := by rfl) (hpl : (backTo pos (starEach es X.env)).any (·.1) = false := by rfl) : PE X (.Call (.Name x p) (e :: es) [] pos) (tm X.K X.mg WW (wCall sp ws [])) := by
  obtain ⟨f, fd, F, hm, hkp, hb⟩ := c
  exact se_call F (hr.mono hk) hg hm hkp hb .nil .nil tk ha hdb he hpl
end
theorem cal_ok {P : Program} {w : World} {K : PySem.W.Frag} {mg : Str → Option Value} {base : Heap} {x qual : Str} {st : Stmt} {f : Addr} {fd : FuncData} {N ps : List Str} {k : Nat} {sp : SPf} (F : Fun K x qual st f fd) (hm : mg x = some (.ref f)) (S : FnScope N ps (defScope st)) (b : Binds K fd ps []) (u : WS)
    (len : ∀ ds S Q E, sp ds S Q E → ds.length = ps.length)
    (hb : ∀ (cdv : Value) (A : Around) (outer : List Env) (s : Shared) (H : Hp) (E : XK), Room k (A.deeper (envOfC qual (defScope st) s.heap.objs.size f cdv)) →
      PSs (cxOf (L2.CX P w) P w K mg base N qual (defScope st) f cdv A outer s H E) (defBody st) (tsm K mg (fun cls d _ H => E cls d H) u))
    (ob : Ob N sp u) : Cal P w K mg base x (k + 1) ps sp := ⟨f, fd, fn_ok F S u len hb ob, hm, F.kp, b⟩
/-- what the names of the built-ins hold -/
structure Bi (mg : Str → Option Value) : Prop where
  len : mg "len" = none
  range : mg "range" = none
  isinstance : mg "isinstance" = none
  int : mg "int" = none
  bool : mg "bool" = none
  str : mg "str" = none
  tuple : mg "tuple" = none
  list : mg "list" = none
  dict : mg "dict" = none
  max : mg "max" = none
  min : mg "min" = none
  sorted : mg "sorted" = none
  sum : mg "sum" = none
  abs : mg "abs" = none
  zip : mg "zip" = none
/-- the law's own promise -/
def spLaw : SPf := fun ds S Q _ => ∃ ns : List Int, ds = [.rol (ns.map D.int)] ∧ ns.length ≤ 63 ∧ S = [] ∧ Q (.bl true) []
theorem rds_ints {K : PySem.W.Frag} {φ : List Addr} {H : Hp} : ∀ ns : List Int, RDs K φ H (ns.map D.int) (ns.map V.int)
  | [] => RDs.nil
  | n :: ns => RDs.cons RD.int (rds_ints ns)
theorem law_start {K : PySem.W.Frag} {mg : Str → Option Value} {H : Hp} {a : Addr} {ns : List Int} (hl : ns.length ≤ 63) (ho : L2.Only H) (hs : SqL K H a (ns.map V.int)) : spOf K mg spLaw [.ref a] H (fun v _ => v = .bl true) fun _ _ _ => False := by
  have ha : RolAt K H a (ns.map V.int) := by
    rcases hs with (h | ⟨o, h⟩) | h
    · rcases ho a with z | ⟨o, xs, z⟩
      · rw [h] at z; cases z
      · rw [h] at z; cases z
    · exact .inl ⟨o, h⟩
    · exact .inr ⟨.inr h, fun H' => .inr h⟩
  refine ⟨[], [], [.rol (ns.map D.int)], ⟨rfl, List.nodup_nil, fun n c a h _ => by simp at h⟩, RDs.cons ?_ RDs.nil, fun d S => d = .bl true, fun _ _ => False, ⟨ns, rfl, hl, rfl, rfl⟩, ?_, fun _ _ z => z.elim⟩
  · simp only [RD]
    exact ⟨a, _, rfl, ha, rds_ints ns⟩
  · intro d S e v φ' H' x rs rd
    subst e
    exact rd.bl_inv
theorem law_noCX {P : Program} {w : World} (H : Hp) (s : Shared) (e : Value) (s' : Shared) (h : L2.CX P w [] H s (fun _ _ _ => False) e s') : False := by
  obtain ⟨_, _, _, _, _, _, _, _, _, _, _, _, z⟩ := h
  exact z.elim
section
variable {P : Program} {w : World} {K : PySem.W.Frag} {mg : Str → Option Value} {base : Heap} {N : List Str} {qual : Str} {sc : Scope} {f : Addr} {cdv : Value} {A : Around} {outer : List Env} {s : Shared} {H : Hp} {E : XK}
theorem tk_def : Takes (cxOf (L2.CX P w) P w K mg base N qual sc f cdv A outer s H E) (fun cls d _ H => E cls d H) := takes_of rfl rfl rfl rfl
theorem hp_def : PassesOwn (model (cxOf (L2.CX P w) P w K mg base N qual sc f cdv A outer s H E).prog (cxOf (L2.CX P w) P w K mg base N qual sc f cdv A outer s H E).w) (cxOf (L2.CX P w) P w K mg base N qual sc f cdv A outer s H E).A (cxOf (L2.CX P w) P w K mg base N qual sc f cdv A outer s H E).env (cxOf (L2.CX P w) P w K mg base N qual sc f cdv A outer s H E).xe := passes_of rfl
end
/-- the law's promise, whatever the module's names hold -/
def spAll (K : PySem.W.Frag) : Sp := fun vs H Q E => ∀ mg, spOf K mg spLaw vs H Q E
theorem len_law : ∀ ds S Q E, spLaw ds S Q E → ds.length = 1 := fun ds S Q E ⟨ns, e, _⟩ => by rw [e]; rfl
/-! sizes -/
def MulOk (i j : Int) : Prop := CMul i j ∨ CMulW i j
def DivOk (j : Int) : Prop := 0 < j ∧ j.natAbs.log2 < 9000
def PowOk (i j : Int) : Prop := CPow i j
theorem mulR {i j : Int} (h : -(2 ^ 64) < j ∧ j < 2 ^ 64) : MulOk i j := .inl (.inr h)
theorem mulL {i j : Int} (h : -(2 ^ 64) < i ∧ i < 2 ^ 64) : MulOk i j := .inl (.inl h)
theorem divOk {j : Int} (h0 : 0 < j) (h : j < 2 ^ 64) : DivOk j := by
  have : j.natAbs < 2 ^ 64 := by omega
  exact ⟨h0, Nat.lt_of_lt_of_le (PySem.Flt.log2_lt_of (by decide) this) (by decide)⟩
@[simp] theorem divOk_lit (n : Nat) (h : 0 < n) (h2 : n < 2 ^ 64) : DivOk (no_index (OfNat.ofNat n)) := divOk (by show (0 : Int) < (n : Int); omega) (by show (n : Int) < 2 ^ 64; omega)
@[simp] theorem mulOk_litR (i : Int) (n : Nat) (h2 : n < 2 ^ 64) : MulOk i (no_index (OfNat.ofNat n)) := mulR (by show -(2 ^ 64) < (n : Int) ∧ (n : Int) < 2 ^ 64; omega)
@[simp] theorem mulOk_litL (i : Int) (n : Nat) (h2 : n < 2 ^ 64) : MulOk (no_index (OfNat.ofNat n)) i := mulL (by show -(2 ^ 64) < (n : Int) ∧ (n : Int) < 2 ^ 64; omega)
@[simp] theorem powOk_lit (n m : Nat) (h : n < 2 ^ 60) (h2 : m ≤ 1000) : PowOk (no_index (OfNat.ofNat n)) (no_index (OfNat.ofNat m)) := ⟨by show (0 : Int) ≤ (m : Int); omega, by show (m : Int) ≤ 1000000; omega, by show (n : Int).natAbs < 2 ^ 64; omega⟩
section
variable {ρ : DEnv} {S : Store} {Q : PQ} {E : PX} {DD : DEnds} {a b c : W} {u v : WS} {i j : Nat} {x y z d : D} {n m : Int}
@[simp] theorem e_seq : wsSeq u v ρ S DD E = u ρ S ⟨fun ρ1 S1 => v ρ1 S1 DD E, DD.rt⟩ E := rfl
@[simp] theorem e_nil : wsNil ρ S DD E = DD.nx ρ S := rfl
@[simp] theorem e_set : wsSet i a ρ S DD E = a ρ S (fun d S1 => DD.nx (ρ.set i (some d)) S1) E := rfl
@[simp] theorem e_expr : wsExpr a ρ S DD E = a ρ S (fun _ S1 => DD.nx ρ S1) E := rfl
@[simp] theorem e_ret : wsRet a ρ S DD E = a ρ S DD.rt E := rfl
@[simp] theorem e_retN : wsRetN ρ S DD E = DD.rt .non S := rfl
@[simp] theorem e_if : wsIf a u v ρ S DD E = a ρ S (fun d S1 => ∃ k, d = .bl k ∧ if k = true then u ρ S1 DD E else v ρ S1 DD E) E := rfl
@[simp] theorem e_asg {t : Tg} : wsAsg t a ρ S DD E = a ρ S (fun d S1 => t d ρ fun ρ1 => DD.nx ρ1 S1) E := rfl
@[simp] theorem e_tN {k : DEnv → Prop} : tN i d ρ k = k (ρ.set i (some d)) := rfl
@[simp] theorem e_tT {is : List Nat} {k : DEnv → Prop} : tT is d ρ k = ∃ ds, d = .tup ds ∧ ds.length = is.length ∧ k (setAll ρ is ds) := rfl
@[simp] theorem e_rt (c : D) : GS.ret c ρ S Q E = Q c S := rfl
@[simp] theorem e_op {p : D → D → W} : wOp p a b ρ S Q E = a ρ S (fun x S1 => b ρ S1 (fun y S2 => p x y ρ S2 Q E) E) E := rfl
@[simp] theorem e_op1 {p : D → W} : wOp1 p a ρ S Q E = a ρ S (fun x S1 => p x ρ S1 Q E) E := rfl
@[simp] theorem e_var : wVar i ρ S Q E = match ρ[i]? with
  | some (some d) => Q d S
  | _ => False := rfl
@[simp] theorem e_and : wAnd a b ρ S Q E = a ρ S (fun d S1 => pB (fun c => if c = true then b else GS.ret (.bl false)) d ρ S1 Q E) E := rfl
@[simp] theorem e_or : wOr a b ρ S Q E = a ρ S (fun d S1 => pB (fun c => if c = true then GS.ret (.bl true) else b) d ρ S1 Q E) E := rfl
@[simp] theorem e_not : wNot a ρ S Q E = a ρ S (fun d S1 => pB (fun c => GS.ret (.bl !c)) d ρ S1 Q E) E := rfl
@[simp] theorem e_pB {k : Bool → W} {t : Bool} : pB k (.bl t) ρ S Q E = k t ρ S Q E := rfl
@[simp] theorem e_chain {p q : D → D → W} : wChain p q a b c ρ S Q E = a ρ S (fun x S1 => b ρ S1 (fun y S2 => p x y ρ S2 (fun d S3 => pB (fun k => if k = true then bindW c fun z => q y z else GS.ret (.bl false)) d ρ S3 Q E) E) E) E := rfl
@[simp] theorem e_bind {k : D → W} : bindW a k ρ S Q E = a ρ S (fun d S1 => k d ρ S1 Q E) E := rfl
@[simp] theorem e_ite {k : Prop} [Decidable k] {f g : W} : (if k then f else g) ρ S Q E = if k then f ρ S Q E else g ρ S Q E := by split <;> rfl
@[simp] theorem e_ws0 {Q : List D → Store → Prop} : evWs [] ρ S Q E = Q [] S := rfl
@[simp] theorem e_ws1 {ws : List W} {Q : List D → Store → Prop} : evWs (a :: ws) ρ S Q E = a ρ S (fun d S1 => evWs ws ρ S1 (fun ds S2 => Q (d :: ds) S2) E) E := rfl
@[simp] theorem e_tup {ws : List W} : wTup ws ρ S Q E = evWs ws ρ S (fun ds S1 => ds.length ≤ 1000 ∧ Q (.tup ds) S1) E := rfl
@[simp] theorem e_lst {ws : List W} : wLst ws ρ S Q E = evWs ws ρ S (fun ds S1 => ds.length ≤ 1000 ∧ Q (.ref S1.length) (S1 ++ [.lst ds])) E := rfl
@[simp] theorem e_sl {lo hi : Option W} : wSl a lo hi ρ S Q E = a ρ S (fun x S1 => wPart lo (fun l => wPart hi fun h => pSl x l h) ρ S1 Q E) E := rfl
@[simp] theorem e_part0 {k : Option Int → W} : wPart none k ρ S Q E = k none ρ S Q E := rfl
@[simp] theorem e_part1 {k : Option Int → W} : wPart (some a) k ρ S Q E = a ρ S (fun d S1 => (match d with | .int i => k (some i) | _ => fail : W) ρ S1 Q E) E := rfl
@[simp] theorem e_call {sp : SPf} {ws : List W} {dfl : List D} : wCall sp ws dfl ρ S Q E = evWs ws ρ S (fun ds S1 => sp (ds ++ dfl) S1 Q (fun c S2 => E c ρ S2)) E := rfl
@[simp] theorem e_B {bf : BPf} {ws : List W} : wB bf ws ρ S Q E = evWs ws ρ S (fun ds S1 => bf ds ρ S1 Q E) E := rfl
@[simp] theorem e_add : pAdd (.int n) (.int m) ρ S Q E = Q (.int (n + m)) S := rfl
@[simp] theorem e_addS {s t : Str} : pAdd (.str s) (.str t) ρ S Q E = (s.length + t.length ≤ sizeLine ∧ Q (.str (s ++ t)) S) := rfl
@[simp] theorem e_addL : pAdd (.ref i) (.ref j) ρ S Q E = ∃ xs ys, S[i]? = some (.lst xs) ∧ S[j]? = some (.lst ys) ∧ xs.length + ys.length ≤ sizeLine ∧ Q (.ref S.length) (S ++ [.lst (xs ++ ys)]) := rfl
@[simp] theorem e_sub : pSub (.int n) (.int m) ρ S Q E = Q (.int (n - m)) S := rfl
@[simp] theorem e_mul : pMul (.int n) (.int m) ρ S Q E = (MulOk n m ∧ Q (.int (n * m)) S) := rfl
@[simp] theorem e_div : pDiv (.int n) (.int m) ρ S Q E = (DivOk m ∧ Q (.int (n / m)) S) := rfl
@[simp] theorem e_mod : pMod (.int n) (.int m) ρ S Q E = (0 < m ∧ Q (.int (n % m)) S) := rfl
@[simp] theorem e_pow : pPow (.int n) (.int m) ρ S Q E = (PowOk n m ∧ Q (.int (n ^ m.toNat)) S) := rfl
@[simp] theorem e_neg : pNeg (.int n) ρ S Q E = Q (.int (-n)) S := rfl
@[simp] theorem e_lt : pLt (.int n) (.int m) ρ S Q E = Q (.bl (decide (n < m))) S := rfl
@[simp] theorem e_le : pLe (.int n) (.int m) ρ S Q E = Q (.bl (decide (n ≤ m))) S := rfl
@[simp] theorem e_gt : pGt (.int n) (.int m) ρ S Q E = Q (.bl (decide (m < n))) S := rfl
@[simp] theorem e_ge : pGe (.int n) (.int m) ρ S Q E = Q (.bl (decide (m ≤ n))) S := rfl
@[simp] theorem e_eq : pEq (.int n) (.int m) ρ S Q E = Q (.bl (decide (n = m))) S := rfl
@[simp] theorem e_ne : pNe (.int n) (.int m) ρ S Q E = Q (.bl (!decide (n = m))) S := rfl
@[simp] theorem e_eqS {s t : Str} : pEq (.str s) (.str t) ρ S Q E = Q (.bl (decide (s = t))) S := rfl
@[simp] theorem e_neS {s t : Str} : pNe (.str s) (.str t) ρ S Q E = Q (.bl (!decide (s = t))) S := rfl
@[simp] theorem e_isN : pIsN d ρ S Q E = Q (.bl (isNon d)) S := rfl
@[simp] theorem e_notN : pNotN d ρ S Q E = Q (.bl (!isNon d)) S := rfl
@[simp] theorem e_isB {s t : Bool} : pIsB (.bl s) (.bl t) ρ S Q E = Q (.bl (decide (s = t))) S := rfl
@[simp] theorem e_notB {s t : Bool} : pNotB (.bl s) (.bl t) ρ S Q E = Q (.bl (!decide (s = t))) S := rfl
@[simp] theorem e_ixL : pIx (.ref i) (.int n) ρ S Q E = ∃ xs d, S[i]? = some (.lst xs) ∧ atI xs n = some d ∧ Q d S := rfl
@[simp] theorem e_ixT {ds : List D} : pIx (.tup ds) (.int n) ρ S Q E = ∃ d, atI ds n = some d ∧ Q d S := rfl
@[simp] theorem e_ixR {ds : List D} : pIx (.rol ds) (.int n) ρ S Q E = ∃ d, atI ds n = some d ∧ Q d S := rfl
@[simp] theorem e_ixS {s : Str} : pIx (.str s) (.int n) ρ S Q E = ∃ c, s.length ≤ sizeLine ∧ atI s.cps.toList n = some c ∧ Q (.str ⟨#[c]⟩) S := rfl
@[simp] theorem e_slR {ds : List D} {lo hi : Option Int} : pSl (.rol ds) lo hi ρ S Q E = (ds.length ≤ sizeLine ∧ Q (.ref S.length) (S ++ [.lst (cutD ds lo hi)])) := rfl
@[simp] theorem e_slL {lo hi : Option Int} : pSl (.ref i) lo hi ρ S Q E = ∃ xs, S[i]? = some (.lst xs) ∧ Q (.ref S.length) (S ++ [.lst (cutD xs lo hi)]) := rfl
@[simp] theorem e_slS {s : Str} {lo hi : Option Int} : pSl (.str s) lo hi ρ S Q E = (s.length ≤ sizeLine ∧ Q (.str (cutS s lo hi)) S) := rfl
@[simp] theorem e_rev : pRev (.ref i) ρ S Q E = ∃ xs, S[i]? = some (.lst xs) ∧ Q (.ref S.length) (S ++ [.lst xs.reverse]) := rfl
@[simp] theorem e_len : bLen [d] ρ S Q E = pLen d ρ S Q E := rfl
@[simp] theorem e_lenL : pLen (.ref i) ρ S Q E = ∃ xs, S[i]? = some (.lst xs) ∧ Q (.int xs.length) S := rfl
@[simp] theorem e_lenT {ds : List D} : pLen (.tup ds) ρ S Q E = Q (.int ds.length) S := rfl
@[simp] theorem e_lenR {ds : List D} : pLen (.rol ds) ρ S Q E = Q (.int ds.length) S := rfl
@[simp] theorem e_lenS {s : Str} : pLen (.str s) ρ S Q E = (s.length ≤ sizeLine ∧ Q (.int s.length) S) := rfl
@[simp] theorem e_max : bMax [.int n, .int m] ρ S Q E = Q (.int (if m > n then m else n)) S := rfl
@[simp] theorem e_min : bMin [.int n, .int m] ρ S Q E = Q (.int (if m < n then m else n)) S := rfl
@[simp] theorem e_int1 : bInt [.int n] ρ S Q E = Q (.int n) S := rfl
@[simp] theorem e_int2 {t : Bool} : bInt [.bl t] ρ S Q E = Q (.int (if t then 1 else 0)) S := rfl
@[simp] theorem e_str1 : bStr [.int n] ρ S Q E = (n.natAbs.log2 < 1920 ∧ Q (.str (toString n)) S) := rfl
@[simp] theorem e_listL : bList [.ref i] ρ S Q E = ∃ xs, S[i]? = some (.lst xs) ∧ Q (.ref S.length) (S ++ [.lst xs]) := rfl
@[simp] theorem e_M {T : String} {m : D → List D → W} {ws : List W} : wM T m a ws ρ S Q E = a ρ S (fun d S1 => isT T S1 d ∧ evWs ws ρ S1 (fun ds S2 => m d ds ρ S2 Q E) E) E := rfl
@[simp] theorem e_append : mAppend (.ref i) [d] ρ S Q E = ∃ xs, S[i]? = some (.lst xs) ∧ xs.length < sizeLine ∧ Q .non (S.set i (.lst (xs ++ [d]))) := rfl
@[simp] theorem e_popAt : mPopAt (.ref i) [.int n] ρ S Q E = ∃ xs d k, S[i]? = some (.lst xs) ∧ -(2 ^ 63) ≤ n ∧ n < 2 ^ 63 ∧ seqIndex? n xs.length = some k ∧ xs[k]? = some d ∧ Q d (S.set i (.lst (xs.eraseIdx k))) := rfl
@[simp] theorem e_pop : mPop (.ref i) [] ρ S Q E = ∃ xs d, S[i]? = some (.lst xs) ∧ xs[xs.length - 1]? = some d ∧ Q d (S.set i (.lst xs.dropLast)) := rfl
@[simp] theorem e_clear : mClear (.ref i) [] ρ S Q E = ∃ xs, S[i]? = some (.lst xs) ∧ Q .non (S.set i (.lst [])) := rfl
@[simp] theorem e_comp {vs : List Nat} {t : Tg} : wComp vs t a b c ρ S Q E = a ρ S (fun d S1 => ∃ n ds, d = .ref n ∧ atL n ds S1 ∧ compG (atL n ds) t b c ds [] (wipeD ρ vs) S1 Q) E := rfl
@[simp] theorem e_compR1 {vs : List Nat} {t : Tg} : wCompR1 vs t a b c ρ S Q E = a ρ S (fun d S1 => ∃ j : Int, d = .int j ∧ -(2 ^ 62) ≤ j ∧ j ≤ 100000 ∧ compG (fun _ => True) t b c (rangeD 0 j.toNat) [] (wipeD ρ vs) S1 Q) E := rfl
theorem e_compR2 {vs : List Nat} {t : Tg} {a2 : W} : wCompR2 vs t a a2 b c ρ S Q E = a ρ S (fun d S1 => a2 ρ S1 (fun d2 S2 => ∃ i j : Int, d = .int i ∧ d2 = .int j ∧ (-(2 ^ 62) ≤ i ∧ i < 2 ^ 62 ∧ -(2 ^ 62) ≤ j ∧ j < 2 ^ 62 ∧ j - i ≤ 100000) ∧ compG (fun _ => True) t b c (rangeD i (j - i).toNat) [] (wipeD ρ vs) S2 Q) E) E := rfl
@[simp] theorem e_wipe0 : wipeD ρ [] = ρ := rfl
@[simp] theorem e_wipe1 {vs : List Nat} : wipeD ρ (i :: vs) = (wipeD ρ vs).set i none := rfl
@[simp] theorem e_yes : wYes ρ S Q E = Q (.bl true) S := rfl
@[simp] theorem e_isi {T : String} : pIsi T d ρ S Q E = ∃ a, tyName S d = some a ∧ Q (.bl (isi a T)) S := rfl
@[simp] theorem e_ty0 : tyName S .non = some "NoneType" := rfl
@[simp] theorem e_ty1 {t : Bool} : tyName S (.bl t) = some "bool" := rfl
@[simp] theorem e_ty2 : tyName S (.int n) = some "int" := rfl
@[simp] theorem e_ty3 {s : Str} : tyName S (.str s) = some "str" := rfl
@[simp] theorem e_ty4 {ds : List D} : tyName S (.tup ds) = some "tuple" := rfl
theorem e_ty5 {ds : List D} (h : S[i]? = some (.lst ds)) : tyName S (.ref i) = some "list" := by simp [tyName, h]
theorem e_ty6 {ks : List (Key × D)} (h : S[i]? = some (.dct ks)) : tyName S (.ref i) = some "dict" := by simp [tyName, h]
@[simp] theorem e_forR1 {t : Tg} : wsForR1 t a u ρ S DD E = a ρ S (fun d S1 => ∃ j : Int, d = .int j ∧ -(2 ^ 62) ≤ j ∧ j < 2 ^ 62 ∧ loopG (fun _ => True) t u (rangeD 0 j.toNat) ρ S1 DD E) E := rfl
@[simp] theorem e_forR2 {t : Tg} : wsForR2 t a b u ρ S DD E = a ρ S (fun d S1 => b ρ S1 (fun e S2 => ∃ i j : Int, d = .int i ∧ e = .int j ∧ (-(2 ^ 62) ≤ i ∧ i < 2 ^ 62 ∧ -(2 ^ 62) ≤ j ∧ j < 2 ^ 62) ∧ loopG (fun _ => True) t u (rangeD i (j - i).toNat) ρ S2 DD E) E) E := rfl
@[simp] theorem e_for {t : Tg} : wsFor t a u ρ S DD E = a ρ S (fun d S1 => ∃ n ds, d = .ref n ∧ atL n ds S1 ∧ loopG (atL n ds) t u ds ρ S1 DD E) E := rfl
@[simp] theorem e_forT {t : Tg} : wsForT t a u ρ S DD E = a ρ S (fun d S1 => ∃ ds, d = .tup ds ∧ loopG (fun _ => True) t u ds ρ S1 DD E) E := rfl
end
/-- a loop by what holds ahead of each turn -/
theorem loop_inv {st : Store → Prop} {t : Tg} {u : WS} {DD : DEnds} {E : PX} (I : Nat → DEnv → Store → Prop) : ∀ (xs : List D) (k : Nat) (ρ : DEnv) (S : Store), I k ρ S → (∀ i ρ S, I i ρ S → st S) →
    (∀ (i : Nat) (x : D) (ρ : DEnv) (S : Store) (N : DEnv → Store → Prop), xs[i]? = some x → I (k + i) ρ S → (∀ ρ2 S2, I (k + i + 1) ρ2 S2 → N ρ2 S2) → t x ρ fun ρ1 => u ρ1 S ⟨N, DD.rt⟩ E) → (∀ ρ S, I (k + xs.length) ρ S → DD.nx ρ S) → loopG st t u xs ρ S DD E
  | [], k, ρ, S, h, hs, ht, hd => ⟨hs _ _ _ h, hd _ _ (by simpa using h)⟩
  | x :: xs, k, ρ, S, h, hs, ht, hd => by
    refine ⟨hs _ _ _ h, ht 0 x ρ S _ (by simp) (by simpa using h) fun r s h2 => ?_⟩
    exact loop_inv I xs (k + 1) r s (by simpa using h2) hs (fun i y ρ S N e hi hN => by
      refine ht (i + 1) y ρ S N (by simpa using e) (by rw [show k + (i + 1) = k + 1 + i from by omega]; exact hi) ?_
      rw [show k + (i + 1) + 1 = k + 1 + i + 1 from by omega]
      exact hN) (fun ρ S h => hd ρ S (by rw [show k + (x :: xs).length = k + 1 + xs.length from by simp; omega]; exact h))
theorem mem_cut {xs : List D} {lo hi : Option Int} {x : D} (h : x ∈ cutD xs lo hi) : x ∈ xs := List.mem_of_mem_drop (List.mem_of_mem_take h)
theorem isT_list {S : Store} {n : Nat} {xs : List D} (h : S[n]? = some (.lst xs)) : isT "list" S (.ref n) := .inl ⟨rfl, xs, h⟩
/-- a loop over a list that is not changed; what is told of each item -/
theorem loop_list {t : Tg} {u : WS} {DD : DEnds} {E : PX} {n : Nat} {ds : List D} {ρ : DEnv} {S : Store} (I : Nat → DEnv → Store → Prop) (h0 : I 0 ρ S) (hs : ∀ i ρ S, I i ρ S → S[n]? = some (.lst ds))
    (ht : ∀ (i : Nat) (x : D) (ρ : DEnv) (S : Store) (N : DEnv → Store → Prop), ds[i]? = some x → I i ρ S → (∀ ρ2 S2, I (i + 1) ρ2 S2 → N ρ2 S2) → t x ρ fun ρ1 => u ρ1 S ⟨N, DD.rt⟩ E) (hd : ∀ ρ S, I ds.length ρ S → DD.nx ρ S) : loopG (atL n ds) t u ds ρ S DD E :=
  loop_inv I _ 0 ρ S h0 hs (fun i x ρ S N e hi hN => ht i x ρ S N e (by simpa using hi) (by simpa using hN)) (fun ρ S h => hd ρ S (by simpa using h))
/-- over a range -/
theorem loop_range {t : Tg} {u : WS} {DD : DEnds} {E : PX} {lo : Int} {n : Nat} {ρ : DEnv} {S : Store} (I : Nat → DEnv → Store → Prop) (h0 : I 0 ρ S)
    (ht : ∀ (i : Nat) (ρ : DEnv) (S : Store) (N : DEnv → Store → Prop), i < n → I i ρ S → (∀ ρ2 S2, I (i + 1) ρ2 S2 → N ρ2 S2) → t (.int (lo + (i : Nat))) ρ fun ρ1 => u ρ1 S ⟨N, DD.rt⟩ E) (hd : ∀ ρ S, I n ρ S → DD.nx ρ S) : loopG (fun _ => True) t u (rangeD lo n) ρ S DD E := by
  refine loop_inv I _ 0 ρ S h0 (fun _ _ _ _ => trivial) (fun i x ρ S N e hi hN => ?_) (fun ρ S h => hd ρ S (by simpa [rangeD_length] using h))
  have hl : i < n := by
    have := (List.getElem?_eq_some_iff.mp e).1
    rwa [rangeD_length] at this
  rw [rangeD_get hl] at e
  cases e
  exact ht i ρ S N hl (by simpa using hi) (by simpa using hN)
/-- the common ends -/
theorem ret_pure {S G : Store} {d : D} {Q : PQ} (hS : ClS S) (hd : Cl S.length d) (h : Q d S) : RetQ S.length Q d (S ++ G) := .inr ⟨S, d, Gc.drop rfl hS hd, h⟩
theorem ret_any {n : Nat} {S : Store} {d : D} {Q : PQ} (h : Q d S) : RetQ n Q d S := .inl h
theorem ret_same {S : Store} {d : D} {Q : PQ} (h : Q d S) : RetQ S.length Q d S := .inl h
theorem ret_list {S S' : Store} {ds : List D} {k : Nat} {Q : PQ} (hS : ClS S) (h0 : ∀ i, i < S.length → S'[i]? = S[i]?) (hk : S'[k]? = some (.lst ds)) (hnk : S.length ≤ k) (hd : Cls' S.length ds) (h : Q (.ref S.length) (S ++ [.lst ds])) : RetQ S.length Q (.ref k) S' :=
  .inr ⟨_, _, Gc.one rfl hS h0 hk hnk hd, h⟩

/-! ### kinds of data that hold no places -/
structure En (α : Type) [DecidableEq α] where
  enc : α → D
  py : α → PyData
  dpy : ∀ S a, DPy S (enc a) (py a)
  lay : ∀ a, (py a).canLay0 = true
  dep : ∀ a, (py a).depth ≤ 10
  eqv : ∀ a b, PyData.eqv (py a) (py b) = decide (a = b)
  cl : ∀ n a, Cl n (enc a)
def encs {α : Type} [DecidableEq α] (e : En α) (xs : List α) : List D := xs.map e.enc
section
variable {α β : Type} [DecidableEq α] [DecidableEq β]
theorem dpys_map (e : En α) (S : Store) : ∀ xs : List α, DPys S (xs.map e.enc) (xs.map e.py)
  | [] => .nil
  | x :: xs => .cons (e.dpy S x) (dpys_map e S xs)
theorem layAll_map (e : En α) : ∀ xs : List α, PyData.canLayAll0 (xs.map e.py) = true
  | [] => by simp [PyData.canLayAll0]
  | x :: xs => by simp [PyData.canLayAll0, e.lay x, layAll_map e xs]
theorem depAll_map (e : En α) : ∀ xs : List α, PyData.depthAll (xs.map e.py) ≤ 10
  | [] => by simp [PyData.depthAll]
  | x :: xs => by
    have h1 := e.dep x
    have h2 := depAll_map e xs
    simp [PyData.depthAll]; omega
theorem eqvAll_map (e : En α) : ∀ xs ys : List α, PyData.eqvAll (xs.map e.py) (ys.map e.py) = decide (xs = ys)
  | [], [] => by simp [PyData.eqvAll]
  | [], _ :: _ => by simp [PyData.eqvAll]
  | _ :: _, [] => by simp [PyData.eqvAll]
  | x :: xs, y :: ys => by
    simp only [List.map_cons, PyData.eqvAll, e.eqv, eqvAll_map e xs ys, List.cons.injEq, Bool.decide_and]
theorem shaped_list (e : En α) (xs : List α) : SeqAt.shaped (.list (xs.map e.py)) = true := by
  have := depAll_map e xs
  unfold SeqAt.shaped
  rw [Bool.and_eq_true]
  exact ⟨by simp only [PyData.canLay0, layAll_map e xs], decide_eq_true (by simp only [PyData.depth]; omega)⟩
theorem cls_map (e : En α) (n : Nat) : ∀ xs : List α, Cls' n (xs.map e.enc)
  | [] => by simp only [List.map_nil, Cls']
  | x :: xs => by simp only [List.map_cons, Cls']; exact ⟨e.cl n x, cls_map e n xs⟩
def eInt : En Int where
  enc := .int
  py := .int
  dpy := fun _ _ => .int _
  lay := fun _ => rfl
  dep := fun _ => by simp [PyData.depth]
  eqv := fun a b => by simp [PyData.eqv, Bool.beq_eq_decide_eq]
  cl := fun _ _ => by simp only [Cl]
def eBool : En Bool where
  enc := .bl
  py := .bool
  dpy := fun _ _ => .bl _
  lay := fun _ => rfl
  dep := fun _ => by simp [PyData.depth]
  eqv := fun a b => by simp [PyData.eqv, Bool.beq_eq_decide_eq]
  cl := fun _ _ => by simp only [Cl]
end
/-- a thing: key and worth -/
abbrev Th := Int × Int
abbrev Pl := Option Th
def eTh : En Th where
  enc := fun a => .tup [.int a.1, .int a.2]
  py := fun a => .tuple [.int a.1, .int a.2]
  dpy := fun _ a => .tup (.cons (.int _) (.cons (.int _) .nil))
  lay := fun _ => rfl
  dep := fun _ => by simp [PyData.depth, PyData.depthAll]
  eqv := fun a b => by
    obtain ⟨a1, a2⟩ := a; obtain ⟨b1, b2⟩ := b
    simp [PyData.eqv, PyData.eqvAll, Bool.beq_eq_decide_eq, Bool.decide_and, Prod.mk.injEq]
  cl := fun _ _ => by simp [Cl, Cls']
def ePl : En Pl where
  enc := fun a => match a with
    | none => .tup []
    | some a => .tup [.int a.1, .int a.2]
  py := fun a => match a with
    | none => .tuple []
    | some a => .tuple [.int a.1, .int a.2]
  dpy := fun _ a => match a with
    | none => .tup .nil
    | some a => .tup (.cons (.int _) (.cons (.int _) .nil))
  lay := fun a => match a with
    | none => rfl
    | some a => rfl
  dep := fun a => match a with
    | none => by simp [PyData.depth, PyData.depthAll]
    | some a => by simp [PyData.depth, PyData.depthAll]
  eqv := fun a b => match a, b with
    | none, none => by simp [PyData.eqv, PyData.eqvAll]
    | none, some b => by simp [PyData.eqv, PyData.eqvAll]
    | some a, none => by simp [PyData.eqv, PyData.eqvAll]
    | some (a1, a2), some (b1, b2) => by simp [PyData.eqv, PyData.eqvAll, Bool.beq_eq_decide_eq, Bool.decide_and, Prod.mk.injEq]
  cl := fun _ a => match a with
    | none => by simp [Cl, Cls']
    | some a => by simp [Cl, Cls']
/-- a pair of two kinds, a tuple -/
def ePair {α β : Type} [DecidableEq α] [DecidableEq β] (e : En α) (f : En β) (hd : (∀ a, (e.py a).depth ≤ 9) ∧ ∀ b, (f.py b).depth ≤ 9) : En (α × β) where
  enc := fun a => .tup [e.enc a.1, f.enc a.2]
  py := fun a => .tuple [e.py a.1, f.py a.2]
  dpy := fun S a => .tup (.cons (e.dpy S a.1) (.cons (f.dpy S a.2) .nil))
  lay := fun a => by simp [PyData.canLay0, PyData.canLayAll0, e.lay, f.lay]
  dep := fun a => by
    have h1 := hd.1 a.1
    have h2 := hd.2 a.2
    simp [PyData.depth, PyData.depthAll]; omega
  eqv := fun a b => by
    obtain ⟨a1, a2⟩ := a; obtain ⟨b1, b2⟩ := b
    simp [PyData.eqv, PyData.eqvAll, e.eqv, f.eqv, Bool.decide_and, Prod.mk.injEq]
  cl := fun n a => by simp [Cl, Cls', e.cl, f.cl]
theorem dep_pl (a : Pl) : (ePl.py a).depth ≤ 9 := by cases a <;> simp [ePl, PyData.depth, PyData.depthAll]
theorem dep_int (a : Int) : (eInt.py a).depth ≤ 9 := by simp [eInt, PyData.depth]
/-- a write: place, thing or () -/
def eWr : En (Int × Pl) := ePair eInt ePl ⟨dep_int, dep_pl⟩
def eMv : En (Int × Int) := eTh
section
variable {α : Type} [DecidableEq α] {ρ : DEnv} {S : Store} {Q : PQ} {E : PX} {i j : Nat} {xs ys : List α} {x y : α}
theorem pEq_gen {d e : D} (h : pEqG d e ρ S Q E) : pEq d e ρ S Q E := by
  unfold pEq
  split
  · obtain ⟨p, q, hp, hq, _, _, h⟩ := h
    cases hp; cases hq
    simpa [PyData.eqv, Bool.beq_eq_decide_eq] using h
  · obtain ⟨p, q, hp, hq, _, _, h⟩ := h
    cases hp; cases hq
    simpa [PyData.eqv, Bool.beq_eq_decide_eq] using h
  · exact h
theorem pNe_gen {d e : D} (h : pNeG d e ρ S Q E) : pNe d e ρ S Q E := by
  unfold pNe
  split
  · obtain ⟨p, q, hp, hq, _, _, h⟩ := h
    cases hp; cases hq
    simpa [PyData.eqv, Bool.beq_eq_decide_eq] using h
  · obtain ⟨p, q, hp, hq, _, _, h⟩ := h
    cases hp; cases hq
    simpa [PyData.eqv, Bool.beq_eq_decide_eq] using h
  · exact h
theorem shaped_en (e : En α) (a : α) : SeqAt.shaped (e.py a) = true := by
  have := e.dep a
  unfold SeqAt.shaped
  simp only [e.lay, Bool.true_and, decide_eq_true_eq]; omega
theorem eq_list (e : En α) (h1 : S[i]? = some (.lst (xs.map e.enc))) (h2 : S[j]? = some (.lst (ys.map e.enc))) (h : Q (.bl (decide (xs = ys))) S) : pEq (.ref i) (.ref j) ρ S Q E :=
  pEq_gen ⟨_, _, .lst h1 (dpys_map e S xs), .lst h2 (dpys_map e S ys), shaped_list e xs, shaped_list e ys, by simpa only [PyData.eqv, eqvAll_map] using h⟩
theorem ne_list (e : En α) (h1 : S[i]? = some (.lst (xs.map e.enc))) (h2 : S[j]? = some (.lst (ys.map e.enc))) (h : Q (.bl (!decide (xs = ys))) S) : pNe (.ref i) (.ref j) ρ S Q E :=
  pNe_gen ⟨_, _, .lst h1 (dpys_map e S xs), .lst h2 (dpys_map e S ys), shaped_list e xs, shaped_list e ys, by simpa only [PyData.eqv, eqvAll_map] using h⟩
theorem eq_en (e : En α) (h : Q (.bl (decide (x = y))) S) : pEq (e.enc x) (e.enc y) ρ S Q E :=
  pEq_gen ⟨_, _, e.dpy S x, e.dpy S y, shaped_en e x, shaped_en e y, by simpa only [e.eqv] using h⟩
theorem ne_en (e : En α) (h : Q (.bl (!decide (x = y))) S) : pNe (e.enc x) (e.enc y) ρ S Q E :=
  pNe_gen ⟨_, _, e.dpy S x, e.dpy S y, shaped_en e x, shaped_en e y, by simpa only [e.eqv] using h⟩
end
/-! tuples of no, of two numbers -/
section
variable {ρ : DEnv} {S : Store} {Q : PQ} {E : PX} {a b c d : Int}
theorem dpys_nil {ps : List PyData} (h : DPys S [] ps) : ps = [] := by cases h; rfl
theorem dpy_int {p : PyData} (h : DPy S (.int a) p) : p = .int a := by cases h; rfl
theorem dpys_two {ps : List PyData} (h : DPys S [.int a, .int b] ps) : ps = [.int a, .int b] := by
  cases h with
  | cons h1 h2 => cases h2 with
    | cons h3 h4 => rw [dpys_nil h4, dpy_int h1, dpy_int h3]
theorem dpy_t0 {p : PyData} (h : DPy S (.tup []) p) : p = .tuple [] := by
  cases h with
  | tup h => rw [dpys_nil h]
theorem dpy_t2 {p : PyData} (h : DPy S (.tup [.int a, .int b]) p) : p = .tuple [.int a, .int b] := by
  cases h with
  | tup h => rw [dpys_two h]
@[simp] theorem e_ne20 : pNe (.tup [.int a, .int b]) (.tup []) ρ S Q E ↔ Q (.bl true) S := by
  constructor
  · rintro ⟨p, q, hp, hq, _, _, h⟩
    rw [dpy_t2 hp, dpy_t0 hq] at h
    simpa [PyData.eqv, PyData.eqvAll] using h
  · intro h
    exact ne_en ePl (x := some (a, b)) (y := none) (by simpa using h)
@[simp] theorem e_ne00 : pNe (.tup []) (.tup []) ρ S Q E ↔ Q (.bl false) S := by
  constructor
  · rintro ⟨p, q, hp, hq, _, _, h⟩
    rw [dpy_t0 hp, dpy_t0 hq] at h
    simpa [PyData.eqv, PyData.eqvAll] using h
  · intro h
    exact ne_en ePl (x := none) (y := none) (by simpa using h)
@[simp] theorem e_eq20 : pEq (.tup [.int a, .int b]) (.tup []) ρ S Q E ↔ Q (.bl false) S := by
  constructor
  · rintro ⟨p, q, hp, hq, _, _, h⟩
    rw [dpy_t2 hp, dpy_t0 hq] at h
    simpa [PyData.eqv, PyData.eqvAll] using h
  · intro h
    exact eq_en ePl (x := some (a, b)) (y := none) (by simpa using h)
@[simp] theorem e_eq00 : pEq (.tup []) (.tup []) ρ S Q E ↔ Q (.bl true) S := by
  constructor
  · rintro ⟨p, q, hp, hq, _, _, h⟩
    rw [dpy_t0 hp, dpy_t0 hq] at h
    simpa [PyData.eqv, PyData.eqvAll] using h
  · intro h
    exact eq_en ePl (x := none) (y := none) (by simpa using h)
@[simp] theorem e_eq22 : pEq (.tup [.int a, .int b]) (.tup [.int c, .int d]) ρ S Q E ↔ Q (.bl (decide ((a, b) = (c, d)))) S := by
  constructor
  · rintro ⟨p, q, hp, hq, _, _, h⟩
    rw [dpy_t2 hp, dpy_t2 hq] at h
    simpa [PyData.eqv, PyData.eqvAll, Bool.beq_eq_decide_eq, Bool.decide_and, Prod.mk.injEq] using h
  · intro h
    exact eq_en eTh (x := (a, b)) (y := (c, d)) h
@[simp] theorem e_ne22 : pNe (.tup [.int a, .int b]) (.tup [.int c, .int d]) ρ S Q E ↔ Q (.bl (!decide ((a, b) = (c, d)))) S := by
  constructor
  · rintro ⟨p, q, hp, hq, _, _, h⟩
    rw [dpy_t2 hp, dpy_t2 hq] at h
    simpa [PyData.eqv, PyData.eqvAll, Bool.beq_eq_decide_eq, Bool.decide_and, Prod.mk.injEq, Bool.not_and] using h
  · intro h
    exact ne_en eTh (x := (a, b)) (y := (c, d)) h
@[simp] theorem e_nePl {p : Pl} : pNe (ePl.enc p) (.tup []) ρ S Q E ↔ Q (.bl p.isSome) S := by
  cases p <;> simp [ePl]
@[simp] theorem e_eqPl {p : Pl} : pEq (ePl.enc p) (.tup []) ρ S Q E ↔ Q (.bl p.isNone) S := by
  cases p <;> simp [ePl]
end
/-! ### comprehensions -/
theorem comp_inv {st : Store → Prop} {b : Tg} {c e : W} {Q : PQ} {ρ : DEnv} (I : Nat → List D → Store → Prop) : ∀ (xs : List D) (k : Nat) (acc : List D) (S : Store), I k acc S → (∀ i acc S, I i acc S → st S) →
    (∀ (i : Nat) (x : D) (acc : List D) (S : Store) (N : List D → Store → Prop), xs[i]? = some x → I (k + i) acc S → (∀ acc2 S2, I (k + i + 1) acc2 S2 → N acc2 S2) →
      b x ρ fun ρ1 => c ρ1 S (fun d S1 => ∃ t, d = .bl t ∧ if t = true then e ρ1 S1 (fun y S2 => N (acc ++ [y]) S2) NoE else N acc S1) NoE) →
    (∀ acc S, I (k + xs.length) acc S → Q (.ref S.length) (S ++ [.lst acc])) → compG st b c e xs acc ρ S Q
  | [], k, acc, S, h, hs, ht, hd => ⟨hs _ _ _ h, hd _ _ (by simpa using h)⟩
  | x :: xs, k, acc, S, h, hs, ht, hd => by
    refine ⟨hs _ _ _ h, ht 0 x acc S (fun acc S => compG st b c e xs acc ρ S Q) (by simp) (by simpa using h) fun r s h2 => ?_⟩
    exact comp_inv I xs (k + 1) r s (by simpa using h2) hs (fun i y ρ S N e hi hN => by
      refine ht (i + 1) y ρ S N (by simpa using e) (by rw [show k + (i + 1) = k + 1 + i from by omega]; exact hi) ?_
      rw [show k + (i + 1) + 1 = k + 1 + i + 1 from by omega]
      exact hN) (fun ρ S h => hd ρ S (by rw [show k + (x :: xs).length = k + 1 + xs.length from by simp; omega]; exact h))
/-- nothing is made on the way but the list -/
theorem comp_pure {st : Store → Prop} {b : Tg} {c e : W} {Q : PQ} {ρ : DEnv} {S : Store} {xs : List D} (f : D → Option D) (hs : st S)
    (ht : ∀ x, x ∈ xs → ∀ N : List D → Store → Prop, N (f x).toList S → b x ρ fun ρ1 => c ρ1 S (fun d S1 => ∃ t, d = .bl t ∧ if t = true then e ρ1 S1 (fun y S2 => N [y] S2) NoE else N [] S1) NoE)
    (hq : Q (.ref S.length) (S ++ [.lst (xs.filterMap f)])) : compG st b c e xs [] ρ S Q := by
  refine comp_inv (fun i acc S' => S' = S ∧ acc = (xs.take i).filterMap f) xs 0 [] S ⟨rfl, by simp⟩ (fun i acc S' h => h.1 ▸ hs) ?_ ?_
  · rintro i x acc S' N hx ⟨rfl, rfl⟩ hN
    have := ht x (List.mem_of_getElem? hx) (fun ys S2 => N (((xs.take (0 + i)).filterMap f) ++ ys) S2) ?_
    · simpa using this
    · refine hN _ _ ⟨rfl, ?_⟩
      rw [show 0 + i + 1 = (0 + i) + 1 from rfl, List.take_add_one, List.filterMap_append]
      simp only [Nat.zero_add]
      rw [hx]
      cases h : f x <;> simp [h]
  · rintro acc S' ⟨rfl, rfl⟩
    simpa using hq
/-! ### bounds -/
def Good (t w s : Int) : Prop := 0 ≤ t ∧ t ≤ 4 ∧ 1 ≤ w ∧ w ≤ 20 ∧ 1 ≤ s ∧ s * (t + 2) ≤ w
abbrev bnd (t w s : Int) : D := .tup [.int t, .int w, .int s]
def sp_twofold : SPf
  | [.int h], S, Q, _ => (0 ≤ h ∧ h ≤ 60) ∧ Q (.int (2 ^ h.toNat)) S
  | _, _, _, _ => False
def sp_cap_of : SPf
  | [.tup [.int _, .int w, .int s], .int h], S, Q, _ => (0 ≤ h ∧ h ≤ 60) ∧ Q (.int (2 ^ h.toNat * (w - s * h))) S
  | _, _, _, _ => False
def sp_calm_of : SPf
  | [.tup [.int _, .int w, .int s], .int h], S, Q, _ => (0 ≤ h ∧ h ≤ 60) ∧ Q (.int (2 ^ h.toNat * (w - s * (h + 1)))) S
  | _, _, _, _ => False
def sp_law_spread : SPf
  | [.int _], S, Q, _ => ∀ n : Int, 0 ≤ n → n < 10 ^ 60 → Q (.int n) S
  | _, _, _, _ => False
def sp_law_whole : SPf
  | [d], S, Q, _ => match tyName S d with
    | some a => Q (.bl (decide (a = "int"))) S
    | none => False
  | _, _, _, _ => False
def sp_law_bounds : SPf
  | [.int _], S, Q, _ => ∀ t w s : Int, Good t w s → Q (bnd t w s) S
  | _, _, _, _ => False
def sp_law_two : SPf
  | [.int h], S, Q, _ => (0 ≤ h ∧ h ≤ 4) ∧ Q (.int (2 ^ h.toNat)) S
  | _, _, _, _ => False
abbrev n_twofold : List Str := ["height", "number", "turn"]
def w_twofold : WS :=
  wsSeq (wsSet 1 (ret (.int 1))) (wsSeq (wsForR1 (tN 2) (wVar 0) (wsSet 1 (wOp pMul (wVar 1) (ret (.int 2))))) (wsRet (wVar 1)))

abbrev n_cap_of : List Str := ["bounds", "height"]
def w_cap_of : WS :=
  wsRet (wOp pMul (wCall sp_twofold [wVar 1] []) (wOp pSub (wOp pIx (wVar 0) (ret (.int 1))) (wOp pMul (wOp pIx (wVar 0) (ret (.int 2))) (wVar 1))))

abbrev n_calm_of : List Str := ["bounds", "height"]
def w_calm_of : WS :=
  wsRet (wOp pMul (wCall sp_twofold [wVar 1] []) (wOp pSub (wOp pIx (wVar 0) (ret (.int 1))) (wOp pMul (wOp pIx (wVar 0) (ret (.int 2))) (wOp pAdd (wVar 1) (ret (.int 1))))))

abbrev n_law_spread : List Str := ["cell", "number"]
def w_law_spread : WS :=
  wsSeq (wsSet 1 (wOp pMod (wOp pMul (wOp pAdd (wOp pMod (wVar 0) (ret (.int 2147483629))) (ret (.int 1))) (ret (.int 1103515245))) (ret (.int 2147483629)))) (wsRet (wOp pAdd (wOp pMod (wOp pMul (wVar 1) (wVar 1)) (ret (.int 2147483587))) (wOp pMul (wOp pMod (wVar 0) (wOp pPow (ret (.int 10)) (ret (.int 50)))) (ret (.int 2147483587)))))

abbrev n_law_whole : List Str := ["thing"]
def w_law_whole : WS :=
  wsRet (wAnd (wOp1 (pIsi "int") (wVar 0)) (wNot (wOp1 (pIsi "bool") (wVar 0))))

abbrev n_law_bounds : List Str := ["cell", "number", "top", "step", "low", "more"]
def w_law_bounds : WS :=
  wsSeq (wsSet 1 (wCall sp_law_spread [wVar 0] [])) (wsSeq (wsSet 2 (wOp pIx (wLst [ret (.int 0), ret (.int 1), ret (.int 1), ret (.int 2), ret (.int 2), ret (.int 2), ret (.int 3), ret (.int 4)]) (wOp pMod (wVar 1) (ret (.int 8))))) (wsSeq (wsSet 3 (wOp pAdd (ret (.int 1)) (wOp pMod (wOp pDiv (wVar 1) (ret (.int 8))) (wOp pDiv (ret (.int 20)) (wOp pAdd (wVar 2) (ret (.int 2))))))) (wsSeq (wsSet 4 (wOp pMul (wVar 3) (wOp pAdd (wVar 2) (ret (.int 2))))) (wsSeq (wsSet 5 (wOp pIx (wLst [wOp pMod (wOp pDiv (wVar 1) (ret (.int 320))) (ret (.int 4)), wOp pMod (wOp pDiv (wVar 1) (ret (.int 320))) (ret (.int 21))]) (wOp pMod (wOp pDiv (wVar 1) (ret (.int 160))) (ret (.int 2))))) (wsRet (wTup [wVar 2, wOp pAdd (wVar 4) (wOp pMod (wVar 5) (wOp pSub (ret (.int 21)) (wVar 4))), wVar 3]))))))

abbrev n_law_two : List Str := ["height"]
def w_law_two : WS :=
  wsRet (wOp pIx (wLst [ret (.int 1), ret (.int 2), ret (.int 4), ret (.int 8), ret (.int 16)]) (wVar 0))

theorem two_pow_le (n : Nat) (h : n ≤ 60) : (1 : Int) ≤ 2 ^ n ∧ (2 : Int) ^ n ≤ 2 ^ 60 := by
  constructor
  · exact_mod_cast Nat.one_le_two_pow
  · exact_mod_cast Nat.pow_le_pow_right (by decide) h
theorem ob_twofold : Ob n_twofold sp_twofold w_twofold := by
  intro ds S Q E hS hd h
  unfold sp_twofold at h
  split at h
  · rename_i h1
    obtain ⟨⟨h2, h3⟩, hq⟩ := h
    simp [w_twofold, startD]
    refine ⟨by omega, by omega, ?_⟩
    refine loop_range (fun i ρ S' => S' = S ∧ ∃ x, ρ = [some (.int h1), some (.int (2 ^ i)), x]) ⟨rfl, none, by simp⟩ ?_ ?_
    · rintro i ρ S' N hi ⟨rfl, x, rfl⟩ hN
      have := two_pow_le i (by omega)
      simp
      refine hN _ _ ⟨rfl, some (.int i), ?_⟩
      simp [Int.pow_succ]
    · rintro ρ S' ⟨rfl, x, rfl⟩
      simp
      exact ret_same hq
  · exact h.elim
theorem ix1 {t w s : D} : atI [t, w, s] 1 = some w := rfl
theorem ix0 {t w s : D} : atI [t, w, s] 0 = some t := rfl
theorem ix2 {t w s : D} : atI [t, w, s] 2 = some s := rfl
theorem ob_cap_of : Ob n_cap_of sp_cap_of w_cap_of := by
  intro ds S Q E hS hd h
  unfold sp_cap_of at h
  split at h
  · rename_i t w s h1
    obtain ⟨⟨h2, h3⟩, hq⟩ := h
    have := two_pow_le h1.toNat (by omega)
    simp [w_cap_of, startD, sp_twofold, ix1, ix2, h2, h3]
    exact ⟨mulR (by omega), mulL (by omega), ret_same hq⟩
  · exact h.elim
theorem ob_calm_of : Ob n_calm_of sp_calm_of w_calm_of := by
  intro ds S Q E hS hd h
  unfold sp_calm_of at h
  split at h
  · rename_i t w s h1
    obtain ⟨⟨h2, h3⟩, hq⟩ := h
    have := two_pow_le h1.toNat (by omega)
    simp [w_calm_of, startD, sp_twofold, ix1, ix2, h2, h3]
    exact ⟨mulR (by omega), mulL (by omega), ret_same hq⟩
  · exact h.elim
theorem ob_law_spread : Ob n_law_spread sp_law_spread w_law_spread := by
  intro ds S Q E hS hd h
  unfold sp_law_spread at h
  split at h
  · rename_i c
    simp [w_law_spread, startD]
    refine ⟨mulR (by omega), ret_same (h _ ?_ ?_)⟩
    · have := Int.emod_nonneg ((c % 2147483629 + 1) * 1103515245 % 2147483629 * ((c % 2147483629 + 1) * 1103515245 % 2147483629)) (show (2147483587 : Int) ≠ 0 by decide)
      omega
    · have := Int.emod_lt_of_pos ((c % 2147483629 + 1) * 1103515245 % 2147483629 * ((c % 2147483629 + 1) * 1103515245 % 2147483629)) (show (0 : Int) < 2147483587 by decide)
      omega
  · exact h.elim
theorem ob_law_whole : Ob n_law_whole sp_law_whole w_law_whole := by
  intro ds S Q E hS hd h
  unfold sp_law_whole at h
  split at h
  · rename_i d
    split at h
    · rename_i a ha
      simp [w_law_whole, startD, ha]
      by_cases h1 : a = "int"
      · subst h1
        simp [isi]
        exact ret_same (by simpa using h)
      · by_cases h2 : a = "bool"
        · subst h2
          simp [isi]
          exact ret_same (by simpa using h)
        · simp [isi, h1, h2]
          exact ret_same (by simpa [h1] using h)
    · exact h.elim
  · exact h.elim
theorem ob_law_two : Ob n_law_two sp_law_two w_law_two := by
  intro ds S Q E hS hd h
  unfold sp_law_two at h
  split at h
  · rename_i h1
    obtain ⟨⟨h2, h3⟩, hq⟩ := h
    simp [w_law_two, startD]
    have hh : h1 = 0 ∨ h1 = 1 ∨ h1 = 2 ∨ h1 = 3 ∨ h1 = 4 := by omega
    rcases hh with rfl | rfl | rfl | rfl | rfl <;> exact ⟨_, rfl, ret_pure hS (by simp only [Cl]) hq⟩
  · exact h.elim
theorem atI_lt {α : Type} {xs : List α} {i : Int} (h0 : 0 ≤ i) (h : i < xs.length) : atI xs i = some (xs[i.toNat]'(by omega)) := by
  unfold atI ixN
  rw [if_pos h0, if_pos h]
  exact List.getElem?_eq_getElem (by omega)
theorem atI_mem {xs : List D} {i : Int} {P : D → Prop} (h0 : 0 ≤ i) (h : i < xs.length) (hp : ∀ x ∈ xs, P x) : ∃ d, atI xs i = some d ∧ P d :=
  ⟨_, atI_lt h0 h, hp _ (List.getElem_mem _)⟩
theorem ob_law_bounds : Ob n_law_bounds sp_law_bounds w_law_bounds := by
  intro ds S Q E hS hd h
  unfold sp_law_bounds at h
  split at h
  · rename_i c
    simp [w_law_bounds, startD, sp_law_spread]
    intro n hn0 hn1
    have h8 : 0 ≤ n % 8 ∧ n % 8 < 8 := by omega
    obtain ⟨d, hd1, t, rfl, ht0, ht4⟩ := atI_mem (xs := [D.int 0, .int 1, .int 1, .int 2, .int 2, .int 2, .int 3, .int 4]) (i := n % 8) (P := fun d => ∃ t, d = .int t ∧ 0 ≤ t ∧ t ≤ 4) h8.1 (by simpa using h8.2) (by simp)
    refine ⟨_, hd1, ?_⟩
    simp
    have hdiv : 1 ≤ 20 / (t + 2) ∧ 20 / (t + 2) ≤ 10 ∧ 20 / (t + 2) * (t + 2) ≤ 20 := by
      have : t = 0 ∨ t = 1 ∨ t = 2 ∨ t = 3 ∨ t = 4 := by omega
      rcases this with rfl | rfl | rfl | rfl | rfl <;> decide
    refine ⟨divOk (by omega) (by omega), by omega, ?_⟩
    generalize hs : 1 + n / 8 % (20 / (t + 2)) = s
    have hs1 : 1 ≤ s ∧ s ≤ 20 / (t + 2) := by
      have h1 := Int.emod_nonneg (n / 8) (show 20 / (t + 2) ≠ 0 by omega)
      have h2 := Int.emod_lt_of_pos (n / 8) (show 0 < 20 / (t + 2) by omega)
      omega
    have hl : 2 ≤ s * (t + 2) ∧ s * (t + 2) ≤ 20 := by
      have h1 : s * (t + 2) ≤ 20 / (t + 2) * (t + 2) := Int.mul_le_mul_of_nonneg_right hs1.2 (by omega)
      have h2 : 1 * 2 ≤ s * (t + 2) := Int.mul_le_mul hs1.1 (by omega) (by decide) (by omega)
      omega
    obtain ⟨d, hd2, m, rfl, hm⟩ := atI_mem (xs := [D.int (n / 320 % 4), D.int (n / 320 % 21)]) (i := n / 160 % 2) (P := fun d => ∃ t : Int, d = .int t ∧ 0 ≤ t) (by omega) (by simp; omega) (by simp; omega)
    refine ⟨mulR (by omega), _, hd2, ?_⟩
    have hg : ∀ l, l = s * (t + 2) → Good t (l + m % (21 - l)) s := fun l e => by
      have h1 := Int.emod_nonneg m (show 21 - l ≠ 0 by omega)
      have h2 := Int.emod_lt_of_pos m (show 0 < 21 - l by omega)
      refine ⟨ht0, ht4, by omega, by omega, by omega, by omega⟩
    simp
    refine ⟨by omega, ret_pure hS (by simp [Cl, Cls']) (h _ _ _ (hg _ rfl))⟩
  · exact h.elim
theorem len_twofold : ∀ ds S Q E, sp_twofold ds S Q E → ds.length = 1 := by
  intro ds S Q E h; unfold sp_twofold at h; split at h <;> first | rfl | exact h.elim
theorem len_cap_of : ∀ ds S Q E, sp_cap_of ds S Q E → ds.length = 2 := by
  intro ds S Q E h; unfold sp_cap_of at h; split at h <;> first | rfl | exact h.elim
theorem len_calm_of : ∀ ds S Q E, sp_calm_of ds S Q E → ds.length = 2 := by
  intro ds S Q E h; unfold sp_calm_of at h; split at h <;> first | rfl | exact h.elim
theorem len_law_spread : ∀ ds S Q E, sp_law_spread ds S Q E → ds.length = 1 := by
  intro ds S Q E h; unfold sp_law_spread at h; split at h <;> first | rfl | exact h.elim
theorem len_law_whole : ∀ ds S Q E, sp_law_whole ds S Q E → ds.length = 1 := by
  intro ds S Q E h; unfold sp_law_whole at h; split at h <;> first | rfl | exact h.elim
theorem len_law_bounds : ∀ ds S Q E, sp_law_bounds ds S Q E → ds.length = 1 := by
  intro ds S Q E h; unfold sp_law_bounds at h; split at h <;> first | rfl | exact h.elim
theorem len_law_two : ∀ ds S Q E, sp_law_two ds S Q E → ds.length = 1 := by
  intro ds S Q E h; unfold sp_law_two at h; split at h <;> first | rfl | exact h.elim
instance (t w s : Int) : Decidable (Good t w s) := by unfold Good; infer_instance
def isB : D → Bool
  | .tup [.int t, .int w, .int s] => decide (Good t w s)
  | _ => false
def tyOk (S : Store) : D → Prop
  | .tup ds => ∀ e ∈ ds, (tyName S e).isSome = true
  | d => (tyName S d).isSome = true
def sp_is_whole : SPf
  | [d], S, Q, _ => match tyName S d with
    | some a => Q (.bl (decide (a = "int"))) S
    | none => False
  | _, _, _, _ => False
def sp_is_bounds : SPf
  | [d], S, Q, _ => tyOk S d ∧ Q (.bl (isB d)) S
  | _, _, _, _ => False
def sp_places_of : SPf
  | [.tup [.int _, .int w, .int _], .int h], S, Q, _ => (0 ≤ h ∧ h ≤ 60) ∧ Q (.int (2 ^ h.toNat * w)) S
  | _, _, _, _ => False
def sp_stretch_of : SPf
  | [.tup [.int _, .int w, .int _], .int h, .int p], S, Q, _ => (0 ≤ h ∧ h ≤ 10 ∧ 1 ≤ w ∧ w ≤ 1000 ∧ 0 ≤ p) ∧ Q (.tup [.int (p / (2 ^ h.toNat * w) * (2 ^ h.toNat * w)), .int (p / (2 ^ h.toNat * w) * (2 ^ h.toNat * w) + 2 ^ h.toNat * w)]) S
  | _, _, _, _ => False
def sp_law_cell : SPf
  | [.rol ds, .int k], S, Q, _ => (0 ≤ k ∧ ∃ ns : List Int, ds = ns.map D.int) ∧ ∀ c : Int, Q (.int c) S
  | _, _, _, _ => False
abbrev n_is_whole : List Str := ["thing"]
def w_is_whole : WS :=
  wsRet (wAnd (wOp1 (pIsi "int") (wVar 0)) (wNot (wOp1 (pIsi "bool") (wVar 0))))

abbrev n_is_bounds : List Str := ["thing", "number", "top", "width", "step"]
def w_is_bounds : WS :=
  wsSeq (wsIf (wOr (wNot (wOp1 (pIsi "tuple") (wVar 0))) (wOp pNe (wB bLen [wVar 0]) (ret (.int 3)))) (wsRet (ret (.bl false))) (wsNil)) (wsSeq (wsForT (tN 1) (wVar 0) (wsIf (wNot (wCall sp_is_whole [wVar 1] [])) (wsRet (ret (.bl false))) (wsNil))) (wsSeq (wsAsg (tT [2, 3, 4]) (wVar 0)) (wsRet (wAnd (wChain pLe pLe (ret (.int 0)) (wVar 2) (ret (.int 4))) (wAnd (wChain pLe pLe (ret (.int 1)) (wVar 3) (ret (.int 20))) (wAnd (wOp pGe (wVar 4) (ret (.int 1))) (wOp pGe (wVar 3) (wOp pMul (wVar 4) (wOp pAdd (wVar 2) (ret (.int 2)))))))))))

abbrev n_places_of : List Str := ["bounds", "height"]
def w_places_of : WS :=
  wsRet (wOp pMul (wCall sp_twofold [wVar 1] []) (wOp pIx (wVar 0) (ret (.int 1))))

abbrev n_stretch_of : List Str := ["bounds", "height", "place", "size", "first"]
def w_stretch_of : WS :=
  wsSeq (wsSet 3 (wCall sp_places_of [wVar 0, wVar 1] [])) (wsSeq (wsSet 4 (wOp pMul (wOp pDiv (wVar 2) (wVar 3)) (wVar 3))) (wsRet (wTup [wVar 4, wOp pAdd (wVar 4) (wVar 3)])))

abbrev n_law_cell : List Str := ["script", "k"]
def w_law_cell : WS :=
  wsSeq (wsIf (wOp pLt (wVar 1) (wB bLen [wVar 0])) (wsRet (wOp pIx (wVar 0) (wVar 1))) (wsNil)) (wsRet (ret (.int 0)))

theorem len_is_whole : ∀ ds S Q E, sp_is_whole ds S Q E → ds.length = 1 := by
  intro ds S Q E h; unfold sp_is_whole at h; split at h <;> first | rfl | exact h.elim
theorem len_is_bounds : ∀ ds S Q E, sp_is_bounds ds S Q E → ds.length = 1 := by
  intro ds S Q E h; unfold sp_is_bounds at h; split at h <;> first | rfl | exact h.elim
theorem len_places_of : ∀ ds S Q E, sp_places_of ds S Q E → ds.length = 2 := by
  intro ds S Q E h; unfold sp_places_of at h; split at h <;> first | rfl | exact h.elim
theorem len_stretch_of : ∀ ds S Q E, sp_stretch_of ds S Q E → ds.length = 3 := by
  intro ds S Q E h; unfold sp_stretch_of at h; split at h <;> first | rfl | exact h.elim
theorem len_law_cell : ∀ ds S Q E, sp_law_cell ds S Q E → ds.length = 2 := by
  intro ds S Q E h; unfold sp_law_cell at h; split at h <;> first | rfl | exact h.elim
theorem ob_is_whole : Ob n_is_whole sp_is_whole w_is_whole := ob_law_whole
theorem ty_int {S : Store} {d : D} (h : tyName S d = some "int") : ∃ i, d = .int i := by
  cases d with
  | int i => exact ⟨i, rfl⟩
  | ref n =>
    simp only [tyName] at h
    split at h <;> simp at h
  | _ => simp [tyName] at h
theorem ob_is_bounds : Ob n_is_bounds sp_is_bounds w_is_bounds := by
  intro ds S Q E hS hd h
  unfold sp_is_bounds at h
  split at h
  · rename_i d
    obtain ⟨ht, hq⟩ := h
    have plain : ∀ a, tyName S d = some a → a ≠ "tuple" → isB d = false → w_is_bounds (startD n_is_bounds [d]) S ⟨fun _ S' => RetQ S.length Q .non S', RetQ S.length Q⟩ (fun c _ S' => RetE S.length E c S') := by
      intro a ha hne hb
      rw [hb] at hq
      by_cases hbool : a = "bool"
      · simp [w_is_bounds, startD, ha, isi, hne]
        exact ret_same hq
      · simp [w_is_bounds, startD, ha, isi, hne]
        exact ret_same hq
    cases d with
    | non => exact plain _ rfl (by decide) rfl
    | bl b => exact plain _ rfl (by decide) rfl
    | int i => exact plain _ rfl (by decide) rfl
    | str s => exact plain _ rfl (by decide) rfl
    | rol ds => simp [tyOk, tyName] at ht
    | adr a => simp [tyOk, tyName] at ht
    | ref n =>
      cases hs : S[n]? with
      | none => simp [tyOk, tyName, hs] at ht
      | some c =>
        cases c with
        | lst ds => exact plain _ (e_ty5 hs) (by decide) rfl
        | dct ds => exact plain _ (e_ty6 hs) (by decide) rfl
        | ins k fs => simp [tyOk, tyName, hs] at ht
    | tup ds =>
      simp [tyOk] at ht
      match ds, ht, hq with
      | [], ht, hq => simp [w_is_bounds, startD, isi]; exact ret_same hq
      | [a], ht, hq => simp [w_is_bounds, startD, isi]; exact ret_same (by simpa [isB] using hq)
      | [a, b], ht, hq => simp [w_is_bounds, startD, isi]; exact ret_same (by simpa [isB] using hq)
      | a :: b :: c :: e :: r, ht, hq =>
        simp [w_is_bounds, startD, isi]
        exact .inr ⟨by omega, ret_same (by simpa [isB] using hq)⟩
      | [a, b, c], ht, hq =>
        obtain ⟨h1, h2, h3⟩ := (by simpa using ht : (tyName S a).isSome ∧ (tyName S b).isSome ∧ (tyName S c).isSome)
        obtain ⟨ta, h1⟩ := Option.isSome_iff_exists.mp h1
        obtain ⟨tb, h2⟩ := Option.isSome_iff_exists.mp h2
        obtain ⟨tc, h3⟩ := Option.isSome_iff_exists.mp h3
        have hno : (ta ≠ "int" ∨ tb ≠ "int" ∨ tc ≠ "int") → Q (.bl false) S := fun h => by
          have : isB (.tup [a, b, c]) = false := by
            cases a <;> cases b <;> cases c <;> simp [isB] at h1 h2 h3 ⊢
            simp_all
          rwa [this] at hq
        simp [w_is_bounds, startD, isi, loopG, sp_is_whole, h1, h2, h3, setAll]
        by_cases ea : ta = "int"
        · by_cases eb : tb = "int"
          · by_cases ec : tc = "int"
            · obtain ⟨i, rfl⟩ := ty_int (ea ▸ h1)
              obtain ⟨j, rfl⟩ := ty_int (eb ▸ h2)
              obtain ⟨k, rfl⟩ := ty_int (ec ▸ h3)
              simp [ea, eb, ec]
              have hf : ¬ Good i j k → Q (.bl false) S := fun h => by simpa [isB, h] using hq
              repeat' split
              · refine ⟨mulR (by omega), ret_same ?_⟩
                have e : decide (k * (i + 2) ≤ j) = decide (Good i j k) := by
                  by_cases h : k * (i + 2) ≤ j
                  · rw [decide_eq_true h, decide_eq_true (by unfold Good; omega)]
                  · rw [decide_eq_false h, decide_eq_false (by unfold Good; omega)]
                rw [e]
                simpa [isB] using hq
              all_goals exact ret_same (hf (by unfold Good; omega))
            · exact .inl ⟨ea, .inl ⟨eb, .inr ⟨ec, ret_same (hno (.inr (.inr ec)))⟩⟩⟩
          · exact .inl ⟨ea, .inr ⟨eb, ret_same (hno (.inr (.inl eb)))⟩⟩
        · exact .inr ⟨ea, ret_same (hno (.inl ea))⟩
  · exact h.elim
theorem ob_places_of : Ob n_places_of sp_places_of w_places_of := by
  intro ds S Q E hS hd h
  unfold sp_places_of at h
  split at h
  · rename_i t w s h1
    obtain ⟨⟨h2, h3⟩, hq⟩ := h
    have := two_pow_le h1.toNat (by omega)
    simp [w_places_of, startD, sp_twofold, ix1, h2, h3]
    exact ⟨mulL (by omega), ret_same hq⟩
  · exact h.elim
theorem pow10 (n : Nat) (h : n ≤ 10) : (1 : Int) ≤ 2 ^ n ∧ (2 : Int) ^ n ≤ 1024 := by
  constructor
  · exact_mod_cast Nat.one_le_two_pow
  · exact_mod_cast Nat.pow_le_pow_right (by decide) h
theorem size_le {h : Nat} {w : Int} (hh : h ≤ 10) (h1 : 1 ≤ w) (h2 : w ≤ 1000) : 1 ≤ 2 ^ h * w ∧ 2 ^ h * w ≤ 1024000 := by
  obtain ⟨a, b⟩ := pow10 h hh
  constructor
  · have := Int.mul_le_mul a h1 (by decide) (by omega); omega
  · have := Int.mul_le_mul b h2 (by omega) (by omega); omega
theorem ob_stretch_of : Ob n_stretch_of sp_stretch_of w_stretch_of := by
  intro ds S Q E hS hd h
  unfold sp_stretch_of at h
  split at h
  · rename_i t w s h1 p
    obtain ⟨⟨h2, h3, h4, h5, h6⟩, hq⟩ := h
    have hs := size_le (h := h1.toNat) (by omega) h4 h5
    simp [w_stretch_of, startD, sp_places_of, h2]
    exact ⟨by omega, divOk (by omega) (by omega), mulR (by omega), ret_same hq⟩
  · exact h.elim
theorem ob_law_cell : Ob n_law_cell sp_law_cell w_law_cell := by
  intro ds S Q E hS hd h
  unfold sp_law_cell at h
  split at h
  · rename_i ds k
    obtain ⟨⟨h0, ns, rfl⟩, hq⟩ := h
    simp [w_law_cell, startD]
    by_cases hk : k < ns.length
    · refine .inr ⟨hk, ?_⟩
      have := atI_lt (xs := ns.map D.int) h0 (by simpa using hk)
      rw [List.getElem_map] at this
      exact ⟨_, this, ret_same (hq _)⟩
    · exact .inl ⟨by omega, ret_same (hq 0)⟩
  · exact h.elim
/-! ### the drawn numbers -/
def Dr (cs : List Int) : Prop := ∀ c ∈ cs, 0 ≤ c ∧ c < 10 ^ 60
theorem comp_spread {n i : Nat} {ds : List D} {ρ : DEnv} {S : Store} {Q : PQ} (hs : S[n]? = some (.lst ds)) (hi : i < ρ.length) (hd : ∀ x ∈ ds, ∃ c, x = D.int c)
    (h : ∀ cs : List Int, cs.length = ds.length → Dr cs → Q (.ref S.length) (S ++ [.lst (cs.map .int)])) : compG (atL n ds) (tN i) wYes (wCall sp_law_spread [wVar i] []) ds [] ρ S Q := by
  refine comp_inv (fun i acc S' => S' = S ∧ ∃ cs : List Int, acc = cs.map .int ∧ cs.length = i ∧ Dr cs) ds 0 [] S ⟨rfl, [], rfl, rfl, fun _ h => nomatch h⟩ (fun i acc S' h => h.1 ▸ hs) ?_ ?_
  · rintro k x acc S' N hx ⟨rfl, cs, rfl, hl, hc⟩ hN
    obtain ⟨c, rfl⟩ := hd x (List.mem_of_getElem? hx)
    have : (ρ.set i (some (.int c)))[i]? = some (some (.int c)) := by simp [hi]
    simp [sp_law_spread, this]
    intro n h0 h1
    refine hN _ _ ⟨rfl, cs ++ [n], by simp, by simp [hl], fun c hc' => ?_⟩
    rcases List.mem_append.mp hc' with h | h
    · exact hc c h
    · simp at h; subst h; exact ⟨h0, h1⟩
  · rintro acc S' ⟨rfl, cs, rfl, hl, hc⟩
    exact h cs (by omega) hc
theorem ints_cut {ns : List Int} {lo hi : Option Int} : ∀ x ∈ cutD (ns.map D.int) lo hi, ∃ c, x = D.int c := fun x hx => by
  obtain ⟨c, _, e⟩ := List.mem_map.mp (mem_cut hx)
  exact ⟨c, e.symm⟩
theorem ints_cons {c : Int} {ds : List D} (h : ∀ x ∈ ds, ∃ c, x = D.int c) : ∀ x ∈ D.int c :: ds, ∃ c, x = D.int c := fun x hx => by
  rcases List.mem_cons.mp hx with rfl | hx
  · exact ⟨_, rfl⟩
  · exact h x hx
theorem rangeD_map (lo : Int) (n : Nat) : rangeD lo n = (List.range n).map fun i => D.int (lo + (i : Nat)) := by
  apply List.ext_getElem?
  intro i
  by_cases h : i < n
  · rw [rangeD_get h]; simp [h]
  · rw [List.getElem?_eq_none (by rw [rangeD_length]; omega), List.getElem?_eq_none (by simp; omega)]
/-- a comprehension over a range that makes nothing on its way -/
theorem comp_range {b : Tg} {c e : W} {Q : PQ} {ρ : DEnv} {S : Store} {lo : Int} {n : Nat} (f : Nat → Option D)
    (ht : ∀ i, i < n → ∀ N : List D → Store → Prop, N (f i).toList S → b (.int (lo + (i : Nat))) ρ fun ρ1 => c ρ1 S (fun d S1 => ∃ t, d = .bl t ∧ if t = true then e ρ1 S1 (fun y S2 => N [y] S2) NoE else N [] S1) NoE)
    (hq : Q (.ref S.length) (S ++ [.lst ((List.range n).filterMap f)])) : compG (fun _ => True) b c e (rangeD lo n) [] ρ S Q := by
  refine comp_inv (fun i acc S' => S' = S ∧ acc = ((List.range n).take i).filterMap f) (rangeD lo n) 0 [] S ⟨rfl, by simp⟩ (fun i acc S' h => trivial) ?_ ?_
  · rintro i x acc S' N hx ⟨rfl, rfl⟩ hN
    have hl : i < n := by
      have := (List.getElem?_eq_some_iff.mp hx).1
      rwa [rangeD_length] at this
    rw [rangeD_get hl] at hx
    cases hx
    have := ht i hl (fun ys S2 => N ((((List.range n).take (0 + i)).filterMap f) ++ ys) S2) ?_
    · simpa using this
    · refine hN _ _ ⟨rfl, ?_⟩
      rw [show 0 + i + 1 = (0 + i) + 1 from rfl, List.take_add_one, List.filterMap_append]
      simp only [Nat.zero_add]
      rw [List.getElem?_range hl]
      cases h : f i <;> simp [h]
  · rintro acc S' ⟨rfl, rfl⟩
    rw [List.take_of_length_le (by simp [rangeD_length])]
    exact hq
theorem comp_rangeY {b : Tg} {e : W} {Q : PQ} {ρ : DEnv} {S : Store} {lo : Int} {n : Nat} (f : Nat → D)
    (ht : ∀ i, i < n → ∀ N : D → Store → Prop, N (f i) S → b (.int (lo + (i : Nat))) ρ fun ρ1 => e ρ1 S N NoE)
    (hq : Q (.ref S.length) (S ++ [.lst ((List.range n).map f)])) : compG (fun _ => True) b wYes e (rangeD lo n) [] ρ S Q := by
  refine comp_range (fun i => some (f i)) (fun i hi N hN => ?_) (by simpa using hq)
  have := ht i hi (fun y S2 => N [y] S2) (by simpa using hN)
  simpa using this
/-- over a list -/
theorem comp_listY {n : Nat} {b : Tg} {e : W} {Q : PQ} {ρ : DEnv} {S : Store} {xs : List D} (f : D → D) (hs : S[n]? = some (.lst xs))
    (ht : ∀ x ∈ xs, ∀ N : D → Store → Prop, N (f x) S → b x ρ fun ρ1 => e ρ1 S N NoE)
    (hq : Q (.ref S.length) (S ++ [.lst (xs.map f)])) : compG (atL n xs) b wYes e xs [] ρ S Q := by
  refine comp_pure (fun x => some (f x)) hs (fun x hx N hN => ?_) (by simpa using hq)
  have := ht x hx (fun y S2 => N [y] S2) (by simpa using hN)
  simpa using this
theorem atI_last {α : Type} {xs : List α} (h : 0 < xs.length) : atI xs (-1) = some (xs[xs.length - 1]'(by omega)) := by
  unfold atI ixN
  rw [if_neg (by omega), if_pos (by omega)]
  simp only [Option.bind_some]
  rw [show (-1 + (xs.length : Int)).toNat = xs.length - 1 by omega]
  exact List.getElem?_eq_getElem (by omega)
/-! ### targets -/
def tg (m z : Int) (k : Nat) : Int := k * z / m
def tgs (m z : Int) : List Int := (List.range m.toNat).map (tg m z)
def sp_targets : SPf
  | [.int m, .int z], S, Q, _ => (0 ≤ m ∧ m ≤ 100000) ∧ Q (.ref S.length) (S ++ [.lst ((tgs m z).map .int)])
  | _, _, _, _ => False
abbrev n_targets : List Str := ["many", "size", "k"]
def w_targets : WS :=
  wsRet (wCompR1 [2] (tN 2) (wVar 0) (wYes) (wOp pDiv (wOp pMul (wVar 2) (wVar 1)) (wVar 0)))
theorem len_targets : ∀ ds S Q E, sp_targets ds S Q E → ds.length = 2 := by
  intro ds S Q E h; unfold sp_targets at h; split at h <;> first | rfl | exact h.elim
theorem ob_targets : Ob n_targets sp_targets w_targets := by
  intro ds S Q E hS hd h
  unfold sp_targets at h
  split at h
  · rename_i m z
    obtain ⟨hm, hq⟩ := h
    simp [w_targets, startD]
    refine ⟨by omega, by omega, comp_rangeY (fun k => .int (tg m z k)) (fun i hi N hN => ?_) ?_⟩
    · simp
      exact ⟨mulL (by omega), divOk (by omega) (by omega), by simpa [tg] using hN⟩
    · refine ret_any ?_
      simpa [tgs, Function.comp_def] using hq
  · exact h.elim
theorem tgs_length (m z : Int) : (tgs m z).length = m.toNat := by simp [tgs]
theorem tgs_get {m z : Int} {k : Nat} (h : k < m.toNat) : (tgs m z)[k]? = some (tg m z k) := by simp [tgs, h]
/-- of a target -/
theorem tg_le {m z : Int} (hm : 0 < m) (k : Nat) : tg m z k * m ≤ k * z := Int.ediv_mul_le _ (by omega)
theorem tg_lt {m z : Int} (hm : 0 < m) (k : Nat) : k * z < (tg m z k + 1) * m := Int.lt_ediv_add_one_mul_self _ hm
theorem tg_step {m z : Int} (hm : 0 < m) (hz : m ≤ z) (k : Nat) : tg m z k < tg m z (k + 1) := by
  have h1 := tg_le (z := z) hm k
  have h2 := tg_lt (z := z) hm (k + 1)
  have h3 : ((k + 1 : Nat) : Int) * z = k * z + z := by rw [show ((k + 1 : Nat) : Int) = (k : Int) + 1 from rfl, Int.add_mul, Int.one_mul]
  refine Int.not_le.mp fun h => ?_
  have h4 : (tg m z (k + 1) + 1) * m ≤ (tg m z k + 1) * m := Int.mul_le_mul_of_nonneg_right (by omega) (by omega)
  rw [Int.add_mul (tg m z k), Int.one_mul] at h4
  omega
theorem tg_zero (m z : Int) : tg m z 0 = 0 := by simp [tg]
theorem tg_nonneg {m z : Int} (hm : 0 < m) (hz : 0 ≤ z) (k : Nat) : 0 ≤ tg m z k := Int.ediv_nonneg (Int.mul_nonneg (by omega) hz) (by omega)
theorem tg_end {m z : Int} (hm : 0 < m) (hz : 0 < z) {k : Nat} (hk : (k : Int) < m) : tg m z k < z := by
  refine Int.ediv_lt_of_lt_mul hm ?_
  rw [Int.mul_comm z m]
  exact Int.mul_lt_mul_of_pos_right hk hz
/-! ### what is never reached -/
def wDead : W := fun _ _ _ _ => False
def wsDead : WS := fun _ _ _ _ => False
def sp_dead : SPf := fun _ _ _ _ => False
theorem se_dead {X : Cx} {e : Expr} {WW : WX} : PE X e (tm X.K X.mg WW wDead) := ⟨fun pins s σ H Q I h => by
  obtain ⟨φ, ρ, S, rs, re, D', E', hw, hn⟩ := h
  exact hw.elim⟩
theorem ss_dead {X : Cx} {e : Stmt} {WW : WX} : PS X e (tsm X.K X.mg WW wsDead) := ⟨fun pins s σ H Q I h => by
  obtain ⟨φ, ρ, S, rs, re, D', E', hw, hn⟩ := h
  exact hw.elim⟩
theorem cal_dead {P : Program} {w : World} {K : PySem.W.Frag} {mg : Str → Option Value} {base : Heap} {x qual : Str} {st : Stmt} {f : Addr} {fd : FuncData} {ps : List Str} {k : Nat} (F : Fun K x qual st f fd) (hm : mg x = some (.ref f)) (b : Binds K fd ps []) :
    Cal P w K mg base x k ps sp_dead := by
  refine ⟨f, fd, ⟨fun vs H Q E h => ?_, fun A outer s H args us vs Q E _ _ _ _ h => ?_⟩, hm, F.kp, b⟩
  · obtain ⟨φ, S, ds, rs, rd, Q', E', h, _⟩ := h
    exact h.elim
  · obtain ⟨φ, S, ds, rs, rd, Q', E', h, _⟩ := h
    exact h.elim
/-! ### shelves -/
def things (ps : List Pl) : List Th := ps.filterMap id
def Straight (ps : List Pl) : Prop := (things ps).Pairwise fun a b => a.1 < b.1
abbrev shp (ps : List Pl) : Cell := .lst (ps.map ePl.enc)
abbrev thp (ts : List Th) : Cell := .lst (ts.map eTh.enc)
theorem things_app (a b : List Pl) : things (a ++ b) = things a ++ things b := by simp [things]
theorem things_some (t : Th) : things [some t] = [t] := rfl
theorem things_none : things [none] = [] := rfl
@[simp] theorem set_at {S G : Store} {c d : Cell} : (S ++ c :: G).set S.length d = S ++ d :: G := by simp
@[simp] theorem get_at {S G : Store} {c : Cell} : (S ++ c :: G)[S.length]? = some c := by simp
theorem isT_at {S G : Store} {ds : List D} : isT "list" (S ++ .lst ds :: G) (.ref S.length) := isT_list get_at
theorem cutD_nat {α : Type} (f : α → D) (xs : List α) {a b : Int} (ha : 0 ≤ a) (hb : 0 ≤ b) : cutD (xs.map f) (some a) (some b) = (((xs.take b.toNat).drop a.toNat)).map f := by
  unfold cutD
  rw [show a = ((a.toNat : Nat) : Int) by omega, show b = ((b.toNat : Nat) : Int) by omega, HT.sIx_nat, HT.sIx_nat]
  simp only [Int.toNat_natCast]
  rw [List.drop_take, ← List.map_drop, ← List.map_take]
  congr 1
  simp only [List.length_map]
  by_cases h : a.toNat ≤ xs.length
  · rw [Nat.min_eq_left h]
    by_cases h2 : b.toNat ≤ xs.length
    · rw [Nat.min_eq_left h2]
    · rw [Nat.min_eq_right (by omega), List.take_of_length_le (by simp), List.take_of_length_le (by simp; omega)]
  · rw [Nat.min_eq_right (show xs.length ≤ a.toNat by omega), List.drop_of_length_le (Nat.le_refl _), List.drop_of_length_le (show xs.length ≤ a.toNat by omega)]
    simp
theorem comp_full {n i : Nat} {ps : List Pl} {ρ : DEnv} {S : Store} {Q : PQ} (hs : S[n]? = some (shp ps)) (hi : i < ρ.length)
    (h : Q (.ref S.length) (S ++ [thp (things ps)])) : compG (atL n (ps.map ePl.enc)) (tN i) (wOp pNe (wVar i) (wTup [])) (wVar i) (ps.map ePl.enc) [] ρ S Q := by
  refine comp_pure (fun x => match x with | .tup [] => none | x => some x) hs (fun x hx N hN => ?_) ?_
  · obtain ⟨p, _, rfl⟩ := List.mem_map.mp hx
    have : ∀ d, (ρ.set i d)[i]? = some d := fun d => by simp [hi]
    cases p with
    | none => simpa [ePl, this] using hN
    | some p => simpa [ePl, this] using hN
  · have : (ps.map ePl.enc).filterMap (fun x => match x with | .tup [] => none | x => some x) = (things ps).map eTh.enc := by
      rw [List.filterMap_map, things, List.map_filterMap]
      congr 1
      funext p
      cases p <;> rfl
    rw [this]; exact h
theorem straight_none {ps : List Pl} (h : Straight ps) : Straight (ps ++ [none]) := by
  unfold Straight at *
  rw [things_app, things_none, List.append_nil]; exact h
theorem straight_some {ps : List Pl} {t : Th} (h : Straight ps) (hk : ∀ u ∈ things ps, u.1 < t.1) : Straight (ps ++ [some t]) := by
  unfold Straight at *
  rw [things_app, things_some, List.pairwise_append]
  exact ⟨h, by simp, fun a ha b hb => by simp at hb; subst hb; exact hk a ha⟩
def sp_law_mixed : SPf
  | [.int _, .int _], S, Q, _ => ∀ n : Int, 0 ≤ n → n < 2147483629 → Q (.int n) S
  | _, _, _, _ => False
def sp_law_shelf : SPf
  | [.tup [.int t, .int w, .int s], .int h, .int _, .int m], S, Q, _ => (0 ≤ h ∧ h ≤ 4 ∧ 1 ≤ w ∧ w ≤ 20) ∧ ∀ ps : List Pl, ps.length = 2 ^ h.toNat * w.toNat → Straight ps → ((things ps).length : Int) ≤ max 0 m → Q (.ref S.length) (S ++ [shp ps])
  | _, _, _, _ => False
def sp_held : SPf
  | [.ref n, .int a, .int b], S, Q, _ => ∃ ps, S[n]? = some (shp ps) ∧ (0 ≤ a ∧ 0 ≤ b) ∧ Q (.int (things ((ps.take b.toNat).drop a.toNat)).length) S
  | _, _, _, _ => False
abbrev n_law_mixed : List Str := ["cell", "k", "number"]
def w_law_mixed : WS :=
  wsSeq (wsSet 2 (wOp pMod (wOp pMul (wOp pAdd (wOp pMod (wVar 0) (ret (.int 2147483629))) (ret (.int 1))) (ret (.int 1103515245))) (ret (.int 2147483629)))) (wsSeq (wsSet 2 (wOp pMod (wOp pAdd (wOp pAdd (wOp pMul (wVar 2) (wVar 2)) (wOp pMul (wVar 1) (ret (.int 69621)))) (ret (.int 12345))) (ret (.int 2147483587)))) (wsRet (wOp pMod (wOp pMul (wVar 2) (wVar 2)) (ret (.int 2147483629)))))

abbrev n_law_shelf : List Str := ["bounds", "height", "cell", "most", "shelf", "count", "key", "place", "number"]
def w_law_shelf : WS :=
  wsSeq (wsSet 4 (wLst [])) (wsSeq (wsSet 5 (ret (.int 0))) (wsSeq (wsSet 6 (wOp pSub (wOp pMod (wVar 2) (wOp pPow (ret (.int 10)) (ret (.int 57)))) (wOp pMul (ret (.int 5)) (wOp pPow (ret (.int 10)) (ret (.int 56)))))) (wsSeq (wsForR1 (tN 7) (wOp pMul (wCall sp_law_two [wVar 1] []) (wOp pIx (wVar 0) (ret (.int 1)))) (wsSeq (wsSet 8 (wCall sp_law_mixed [wVar 2, wOp pAdd (wVar 7) (ret (.int 11))] [])) (wsIf (wAnd (wOp pLt (wOp pMod (wVar 8) (ret (.int 4))) (wOp pMod (wCall sp_law_mixed [wVar 2, wOp pAdd (wOp pDiv (wVar 7) (wOp pIx (wVar 0) (ret (.int 1)))) (ret (.int 900))] []) (ret (.int 6)))) (wOp pLt (wVar 5) (wVar 3))) (wsSeq (wsSet 6 (wOp pAdd (wOp pAdd (wVar 6) (ret (.int 1))) (wOp pMul (wOp pMod (wOp pDiv (wVar 8) (ret (.int 4))) (ret (.int 3))) (wOp pIx (wLst [ret (.int 1), wOp pPow (ret (.int 10)) (ret (.int 40))]) (wOp pMod (wVar 2) (ret (.int 2))))))) (wsSeq (wsExpr (wM "list" mAppend (wVar 4) [wTup [wVar 6, wOp pSub (wOp pMod (wOp pDiv (wVar 8) (ret (.int 12))) (wOp pPow (ret (.int 10)) (ret (.int 8)))) (ret (.int 3))]])) (wsSet 5 (wOp pAdd (wVar 5) (ret (.int 1)))))) (wsExpr (wM "list" mAppend (wVar 4) [wTup []]))))) (wsRet (wVar 4)))))

abbrev n_held : List Str := ["shelf", "first", "behind", "thing"]
def w_held : WS :=
  wsRet (wB bLen [wComp [3] (tN 3) (wSl (wVar 0) (some (wVar 1)) (some (wVar 2))) (wOp pNe (wVar 3) (wTup [])) (wVar 3)])

theorem len_law_mixed : ∀ ds S Q E, sp_law_mixed ds S Q E → ds.length = 2 := by
  intro ds S Q E h; unfold sp_law_mixed at h; split at h <;> first | rfl | exact h.elim
theorem len_law_shelf : ∀ ds S Q E, sp_law_shelf ds S Q E → ds.length = 4 := by
  intro ds S Q E h; unfold sp_law_shelf at h; split at h <;> first | rfl | exact h.elim
theorem len_held : ∀ ds S Q E, sp_held ds S Q E → ds.length = 3 := by
  intro ds S Q E h; unfold sp_held at h; split at h <;> first | rfl | exact h.elim
theorem ob_law_mixed : Ob n_law_mixed sp_law_mixed w_law_mixed := by
  intro ds S Q E hS hd h
  unfold sp_law_mixed at h
  split at h
  · rename_i c k
    simp [w_law_mixed, startD]
    generalize (c % 2147483629 + 1) * 1103515245 % 2147483629 * ((c % 2147483629 + 1) * 1103515245 % 2147483629) + k * 69621 + 12345 = x
    exact ⟨mulR (by omega), mulR (by omega), ret_same (h _ (by omega) (by omega))⟩
  · exact h.elim
theorem ob_held : Ob n_held sp_held w_held := by
  intro ds S Q E hS hd h
  unfold sp_held at h
  split at h
  · rename_i n a b
    obtain ⟨ps, hn, hab, hq⟩ := h
    simp [w_held, startD, hn, atL]
    rw [cutD_nat _ _ hab.1 hab.2]
    refine comp_full (by simp) (by simp) ?_
    simp
    exact ret_pure hS (by simp only [Cl]) hq
  · exact h.elim
theorem ob_law_shelf : Ob n_law_shelf sp_law_shelf w_law_shelf := by
  intro ds S Q E hS hd h
  unfold sp_law_shelf at h
  split at h
  · rename_i t w s h1 c m
    obtain ⟨⟨h2, h3, h4, h5⟩, hq⟩ := h
    simp [w_law_shelf, startD, sp_law_two, h2, h3, ix1]
    have hp := two_pow_le h1.toNat (by omega)
    have hsz := size_le (h := h1.toNat) (by omega) h4 (by omega)
    refine ⟨mulL (by omega), by omega, by omega, ?_⟩
    refine loop_range (fun i ρ S' => ∃ ps G x y, ∃ cnt key : Int, S' = S ++ shp ps :: G ∧ ρ = [some (bnd t w s), some (.int h1), some (.int c), some (.int m), some (.ref S.length), some (.int cnt), some (.int key), x, y] ∧
      ps.length = i ∧ Straight ps ∧ cnt = (things ps).length ∧ cnt ≤ max 0 m ∧ ∀ t ∈ things ps, t.1 ≤ key) ⟨[], [], none, none, 0, _, rfl, rfl, rfl, .nil, rfl, by omega, fun _ h => nomatch h⟩ ?_ ?_
    · rintro i ρ S' N hi ⟨ps, G, x, y, cnt, key, rfl, rfl, hl, hst, hcnt, hcm, hk⟩ hN
      have hi2 : (i : Int) < 1024000 := by omega
      simp [sp_law_mixed, ix1]
      have fin0 : ∀ d, N [some (bnd t w s), some (D.int h1), some (D.int c), some (D.int m), some (D.ref S.length), some (D.int cnt), some (D.int key), some (D.int i), d] (S ++ .lst (ps.map ePl.enc ++ [D.tup []]) :: G) := fun d =>
        hN _ _ ⟨ps ++ [none], G, _, _, cnt, key, by simp [ePl], rfl, by simp [hl], straight_none hst, by simp [things_app, things_none, hcnt], hcm, fun t ht => hk t (by simpa [things_app, things_none] using ht)⟩
      have fin1 : ∀ G2 (k2 v : Int) d, cnt < m → key < k2 → N [some (bnd t w s), some (D.int h1), some (D.int c), some (D.int m), some (D.ref S.length), some (D.int (cnt + 1)), some (D.int k2), some (D.int i), d] (S ++ .lst (ps.map ePl.enc ++ [D.tup [.int k2, .int v]]) :: G2) := fun G2 k2 v d hc hlt =>
        hN _ _ ⟨ps ++ [some (k2, v)], G2, _, _, cnt + 1, k2, by simp [ePl], rfl, by simp [hl], straight_some hst (fun u hu => by have := hk u hu; omega), by simp [things_app, things_some, hcnt], by omega, fun t ht => by
          rw [things_app, things_some] at ht
          rcases List.mem_append.mp ht with ht | ht
          · have := hk t ht; omega
          · simp at ht; subst ht; exact Int.le_refl _⟩
      have hlen : ps.length < sizeLine := by
        have : 1024000 < sizeLine := by decide
        omega
      intro a ha0 ha1
      refine ⟨divOk (by omega) (by omega), fun b hb0 hb1 => ?_⟩
      split
      · by_cases hcm2 : cnt < m
        · refine .inr ⟨hcm2, atI_mem (by omega) (by simp; omega) ?_⟩
          have step : ∀ v : Int, 0 ≤ v → ∀ k2, k2 = a / 4 % 3 * v → key < key + 1 + k2 := fun v hv k2 e => by
            have := Int.mul_nonneg (show 0 ≤ a / 4 % 3 by omega) hv
            omega
          simp [isT_at, hlen]
          exact ⟨fin1 _ _ _ _ hcm2 (by omega), mulL (by omega), fin1 _ _ _ _ hcm2 (by omega)⟩
        · exact .inl ⟨by omega, isT_at, hlen, fin0 _⟩
      · exact ⟨isT_at, hlen, fin0 _⟩
    · rintro ρ S' ⟨ps, G, x, y, cnt, key, rfl, rfl, hl, hst, hcnt, hcm, hk⟩
      simp
      have hl2 : ps.length = 2 ^ h1.toNat * w.toNat := by
        rw [hl]
        have : (2 : Int) ^ h1.toNat * w = ((2 ^ h1.toNat * w.toNat : Nat) : Int) := by
          rw [Int.natCast_mul, Int.toNat_of_nonneg (by omega)]
          simp
        omega
      exact ret_list hS (fun i hi => by rw [List.getElem?_append_left hi]) get_at (Nat.le_refl _) (cls_map ePl _ _) (hq ps hl2 hst (by omega))
  · exact h.elim
def lessAt (ps : List Pl) (key : Int) (i : Nat) : Bool := match ps[i]? with
  | some (some t) => decide (t.1 < key)
  | _ => false
def keyAt (ps : List Pl) (key : Int) (i : Nat) : Bool := match ps[i]? with
  | some (some t) => decide (t.1 = key)
  | _ => false
def seatN (ps : List Pl) (key : Int) : Nat → Nat
  | 0 => 0
  | i + 1 => if lessAt ps key i = true then i else seatN ps key i
def optI : Option Nat → D
  | some i => .int i
  | none => .non
def placeN (ps : List Pl) (key : Int) : Option Nat := (List.range ps.length).find? (keyAt ps key)
def sp_seat_of : SPf
  | [.ref n, .int key], S, Q, _ => ∃ ps, S[n]? = some (shp ps) ∧ ps.length ≤ 100000 ∧ Q (.int (seatN ps key ps.length)) S
  | _, _, _, _ => False
def sp_place_of : SPf
  | [.ref n, .int key], S, Q, _ => ∃ ps, S[n]? = some (shp ps) ∧ ps.length ≤ 100000 ∧ Q (optI (placeN ps key)) S
  | _, _, _, _ => False
def sp_law_key : SPf
  | [.ref n, .int _], S, Q, _ => ∃ ps, S[n]? = some (shp ps) ∧ ∀ k : Int, Q (.int k) S
  | _, _, _, _ => False
abbrev n_law_key : List Str := ["shelf", "cell", "things", "thing", "far"]
def w_law_key : WS :=
  wsSeq (wsSet 2 (wComp [3] (tN 3) (wVar 0) (wOp pNe (wVar 3) (wTup [])) (wVar 3))) (wsSeq (wsSet 4 (wOp pMod (wVar 1) (wOp pPow (ret (.int 10)) (ret (.int 58))))) (wsSeq (wsIf (wOr (wOp pEq (wVar 2) (wLst [])) (wOp pEq (wOp pMod (wVar 1) (ret (.int 5))) (ret (.int 4)))) (wsRet (wOp pIx (wLst [wVar 4, wOp1 pNeg (wVar 4)]) (wOp pMod (wOp pDiv (wVar 1) (ret (.int 5))) (ret (.int 2))))) (wsNil)) (wsRet (wOp pAdd (wOp pIx (wOp pIx (wVar 2) (wOp pMod (wOp pDiv (wVar 1) (ret (.int 5))) (wB bLen [wVar 2]))) (ret (.int 0))) (wOp pIx (wLst [wOp1 pNeg (ret (.int 1)), ret (.int 0), ret (.int 1), ret (.int 2)]) (wOp pMod (wOp pDiv (wVar 1) (ret (.int 500))) (ret (.int 4))))))))

abbrev n_seat_of : List Str := ["shelf", "key", "seat", "place"]
def w_seat_of : WS :=
  wsSeq (wsSet 2 (ret (.int 0))) (wsSeq (wsForR1 (tN 3) (wB bLen [wVar 0]) (wsIf (wAnd (wOp pNe (wOp pIx (wVar 0) (wVar 3)) (wTup [])) (wOp pLt (wOp pIx (wOp pIx (wVar 0) (wVar 3)) (ret (.int 0))) (wVar 1))) (wsSet 2 (wVar 3)) (wsNil))) (wsRet (wVar 2)))

abbrev n_place_of : List Str := ["shelf", "key", "place"]
def w_place_of : WS :=
  wsSeq (wsForR1 (tN 2) (wB bLen [wVar 0]) (wsIf (wAnd (wOp pNe (wOp pIx (wVar 0) (wVar 2)) (wTup [])) (wOp pEq (wOp pIx (wOp pIx (wVar 0) (wVar 2)) (ret (.int 0))) (wVar 1))) (wsRet (wVar 2)) (wsNil))) (wsRet (ret .non))

theorem len_seat_of : ∀ ds S Q E, sp_seat_of ds S Q E → ds.length = 2 := by
  intro ds S Q E h; unfold sp_seat_of at h; split at h <;> first | rfl | exact h.elim
theorem len_place_of : ∀ ds S Q E, sp_place_of ds S Q E → ds.length = 2 := by
  intro ds S Q E h; unfold sp_place_of at h; split at h <;> first | rfl | exact h.elim
theorem len_law_key : ∀ ds S Q E, sp_law_key ds S Q E → ds.length = 2 := by
  intro ds S Q E h; unfold sp_law_key at h; split at h <;> first | rfl | exact h.elim
theorem shelf_len {n k : Nat} {w : Int} (h : n = 2 ^ k * w.toNat) (hk : k ≤ 4) (h1 : 1 ≤ w) (h2 : w ≤ 20) : 1 ≤ n ∧ n ≤ 320 := by
  have e : k = 0 ∨ k = 1 ∨ k = 2 ∨ k = 3 ∨ k = 4 := by omega
  subst h
  rcases e with rfl | rfl | rfl | rfl | rfl <;> omega
theorem app_get {S G : Store} {k : Nat} {c : Cell} (h : S[k]? = some c) : (S ++ G)[k]? = some c := by
  rw [List.getElem?_append_left (List.getElem?_eq_some_iff.mp h).1]; exact h
theorem pl_at {ps : List Pl} {i : Nat} (h : i < ps.length) : atI (ps.map ePl.enc) (i : Int) = some (ePl.enc ps[i]) := by
  rw [atI_lt (by omega) (by simp; omega)]
  simp
theorem th_at {ts : List Th} {i : Nat} (h : i < ts.length) : atI (ts.map eTh.enc) (i : Int) = some (eTh.enc ts[i]) := by
  rw [atI_lt (by omega) (by simp; omega)]
  simp
theorem jx0 {a b : D} : atI [a, b] 0 = some a := rfl
theorem jx1 {a b : D} : atI [a, b] 1 = some b := rfl
@[simp] theorem enc_none : ePl.enc none = .tup [] := rfl
@[simp] theorem enc_some {t : Th} : ePl.enc (some t) = .tup [.int t.1, .int t.2] := rfl
@[simp] theorem enc_th {t : Th} : eTh.enc t = .tup [.int t.1, .int t.2] := rfl
theorem ob_seat_of : Ob n_seat_of sp_seat_of w_seat_of := by
  intro ds S Q E hS hd h
  unfold sp_seat_of at h
  split at h
  · rename_i n key
    obtain ⟨ps, hn, hl, hq⟩ := h
    simp [w_seat_of, startD, hn]
    refine ⟨by omega, ?_⟩
    refine loop_range (fun i ρ S' => S' = S ∧ ∃ x, ρ = [some (.ref n), some (.int key), some (.int (seatN ps key i)), x]) ⟨rfl, none, rfl⟩ ?_ ?_
    · rintro i ρ S' N hi ⟨rfl, x, rfl⟩ hN
      have e := pl_at (ps := ps) (i := i) hi
      have fin := hN _ _ ⟨rfl, some (.int i), rfl⟩
      simp [hn, e]
      cases e2 : ps[i] with
      | none =>
        simp
        simpa [seatN, lessAt, List.getElem?_eq_getElem hi, e2] using fin
      | some t =>
        simp [jx0]
        by_cases h : t.1 < key
        · refine .inr ⟨h, ?_⟩
          simpa [seatN, lessAt, List.getElem?_eq_getElem hi, e2, h] using fin
        · refine .inl ⟨by omega, ?_⟩
          simpa [seatN, lessAt, List.getElem?_eq_getElem hi, e2, h] using fin
    · rintro ρ S' ⟨rfl, x, rfl⟩
      simp
      exact ret_same hq
  · exact h.elim
theorem ob_place_of : Ob n_place_of sp_place_of w_place_of := by
  intro ds S Q E hS hd h
  unfold sp_place_of at h
  split at h
  · rename_i n key
    obtain ⟨ps, hn, hl, hq⟩ := h
    simp [w_place_of, startD, hn]
    refine ⟨by omega, ?_⟩
    refine loop_range (fun i ρ S' => S' = S ∧ (∃ x, ρ = [some (.ref n), some (.int key), x]) ∧ ∀ j, j < i → keyAt ps key j = false) ⟨rfl, ⟨none, rfl⟩, fun _ h => absurd h (by omega)⟩ ?_ ?_
    · rintro i ρ S' N hi ⟨rfl, ⟨x, rfl⟩, hno⟩ hN
      have e := pl_at (ps := ps) (i := i) hi
      have fin := fun h => hN [some (.ref n), some (.int key), some (.int i)] S' ⟨rfl, ⟨some (.int i), rfl⟩, fun j hj => if hji : j = i then hji ▸ h else hno j (by omega)⟩
      simp [hn, e]
      cases e2 : ps[i] with
      | none =>
        simp
        exact fin (by simp [keyAt, List.getElem?_eq_getElem hi, e2])
      | some t =>
        simp [jx0]
        by_cases h : t.1 = key
        · refine .inr ⟨h, ret_same ?_⟩
          have : placeN ps key = some i := by
            unfold placeN
            rw [List.find?_range_eq_some]
            exact ⟨by simp [keyAt, List.getElem?_eq_getElem hi, e2, h], by simpa using hi, fun j hj => by simp [hno j hj]⟩
          rw [this] at hq
          exact hq
        · refine .inl ⟨h, fin (by simp [keyAt, List.getElem?_eq_getElem hi, e2, h])⟩
    · rintro ρ S' ⟨rfl, ⟨x, rfl⟩, hno⟩
      simp
      have : placeN ps key = none := by
        unfold placeN
        rw [List.find?_eq_none]
        intro j hj
        simp at hj
        simp [hno j hj]
      rw [this] at hq
      exact ret_same hq
  · exact h.elim
theorem ob_law_key : Ob n_law_key sp_law_key w_law_key := by
  intro ds S Q E hS hd h
  unfold sp_law_key at h
  split at h
  · rename_i n c
    obtain ⟨ps, hn, hq⟩ := h
    have fin : ∀ (k : Int) (G : Store), RetQ S.length Q (.int k) (S ++ G) := fun k G => ret_pure hS (by simp only [Cl]) (hq k)
    simp [w_law_key, startD, hn, atL]
    refine comp_full hn (by simp) ?_
    simp
    refine eq_list eTh (xs := things ps) (ys := []) (by simp) (by simp) ?_
    simp
    have far : ∃ x, atI [D.int (c % 10000000000000000000000000000000000000000000000000000000000), D.int (-(c % 10000000000000000000000000000000000000000000000000000000000))] (c / 5 % 2) = some x ∧ RetQ S.length Q x (S ++ [thp (things ps), Cell.lst [], Cell.lst [D.int (c % 10000000000000000000000000000000000000000000000000000000000), D.int (-(c % 10000000000000000000000000000000000000000000000000000000000))]]) := by
      refine atI_mem (by omega) (by simp; omega) ?_
      simp
      exact ⟨fin _ _, fin _ _⟩
    split
    · exact far
    · rename_i hne
      by_cases h4 : c % 5 = 4
      · exact .inr ⟨h4, far⟩
      · have hpos : 0 < (things ps).length := List.length_pos_iff.mpr hne
        refine .inl ⟨h4, hpos, ?_⟩
        have m0 := Int.emod_nonneg (c / 5) (show ((things ps).length : Int) ≠ 0 by omega)
        have m1 := Int.emod_lt_of_pos (c / 5) (show (0 : Int) < (things ps).length by omega)
        refine atI_mem m0 (by simpa using m1) ?_
        intro x hx
        obtain ⟨t, _, rfl⟩ := List.mem_map.mp hx
        simp [jx0]
        refine atI_mem (by omega) (by simp; omega) ?_
        simp
        exact ⟨fin _ _, fin _ _, fin _ _, fin _ _⟩
  · exact h.elim
@[simp] theorem e_subS {o i e : W} {ρ : DEnv} {S : Store} {DD : DEnds} {E : PX} : wsSub o i e ρ S DD E = e ρ S (fun d S1 => o ρ S1 (fun x S2 => i ρ S2 (fun y S3 => ∃ n k xs j, x = .ref n ∧ y = .int k ∧ S3[n]? = some (.lst xs) ∧ ixN xs.length k = some j ∧ DD.nx ρ (S3.set n (.lst (xs.set j d)))) E) E) E := rfl
/-! ### writes -/
abbrev Wr := Int × Pl
abbrev wrp (ws : List Wr) : Cell := .lst (ws.map eWr.enc)
def OkW (n : Nat) (ws : List Wr) : Prop := ∀ w ∈ ws, 0 ≤ w.1 ∧ w.1 < n
def doneP (ps : List Pl) : List Wr → List Pl
  | [] => ps
  | w :: ws => doneP (ps.set w.1.toNat w.2) ws
@[simp] theorem enc_wr {w : Wr} : eWr.enc w = .tup [.int w.1, ePl.enc w.2] := rfl
theorem doneP_len : ∀ (ws : List Wr) (ps : List Pl), (doneP ps ws).length = ps.length
  | [], ps => rfl
  | w :: ws, ps => by unfold doneP; rw [doneP_len ws]; simp
theorem doneP_app : ∀ (a b : List Wr) (ps : List Pl), doneP ps (a ++ b) = doneP (doneP ps a) b
  | [], b, ps => rfl
  | w :: a, b, ps => by
    show doneP (ps.set w.1.toNat w.2) (a ++ b) = _
    rw [doneP_app a b]; rfl
theorem ixN_ok {n : Nat} {i : Int} (h0 : 0 ≤ i) (h : i < n) : ixN n i = some i.toNat := by
  unfold ixN; rw [if_pos h0, if_pos h]
theorem map_set {α : Type} (f : α → D) (ps : List α) (i : Nat) (p : α) : (ps.map f).set i (f p) = (ps.set i p).map f := by rw [List.map_set]
def sp_done : SPf
  | [.ref n, .ref m], S, Q, _ => ∃ ps ws, S[n]? = some (shp ps) ∧ S[m]? = some (wrp ws) ∧ OkW ps.length ws ∧ Q (.ref S.length) (S ++ [shp (doneP ps ws)])
  | _, _, _, _ => False
theorem len_done : ∀ ds S Q E, sp_done ds S Q E → ds.length = 2 := by
  intro ds S Q E h; unfold sp_done at h; split at h <;> first | rfl | exact h.elim
abbrev n_done : List Str := ["shelf", "writes", "slab", "place", "thing"]
def w_done : WS :=
  wsSeq (wsSet 2 (wB bList [wVar 0])) (wsSeq (wsFor (tT [3, 4]) (wVar 1) (wsSub (wVar 2) (wVar 3) (wVar 4))) (wsRet (wVar 2)))
theorem take_next {α : Type} {xs : List α} {i : Nat} (h : i < xs.length) : xs.take (i + 1) = xs.take i ++ [xs[i]] := by
  rw [List.take_add_one, List.getElem?_eq_getElem h]; rfl
theorem ob_done : Ob n_done sp_done w_done := by
  intro ds S Q E hS hd h
  unfold sp_done at h
  split at h
  · rename_i n m
    obtain ⟨ps, ws, hn, hm, ho, hq⟩ := h
    have hn2 : n < S.length := (List.getElem?_eq_some_iff.mp hn).1
    have hm2 : m < S.length := (List.getElem?_eq_some_iff.mp hm).1
    simp [w_done, startD, hn, atL]
    refine ⟨_, app_get hm, loop_list (S := S ++ [shp ps]) (fun i ρ S' => S' = S ++ [shp (doneP ps (ws.take i))] ∧ ∃ x y, ρ = [some (.ref n), some (.ref m), some (.ref S.length), x, y]) ⟨by simp [doneP], none, none, rfl⟩ (fun i ρ S' h => by rw [h.1]; exact app_get hm) ?_ ?_⟩
    · rintro i x ρ S' N hx ⟨rfl, a, b, rfl⟩ hN
      have hi : i < ws.length := by simpa using (List.getElem?_eq_some_iff.mp hx).1
      rw [List.getElem?_map, List.getElem?_eq_getElem hi] at hx
      simp at hx
      subst hx
      obtain ⟨w0, w1⟩ := ho ws[i] (List.getElem_mem _)
      simp [setAll]
      refine ⟨_, ixN_ok w0 (by rw [doneP_len]; exact w1), hN _ _ ⟨?_, _, _, rfl⟩⟩
      rw [map_set, take_next hi, doneP_app]
      simp [doneP]
    · rintro ρ S' ⟨rfl, a, b, rfl⟩
      simp
      exact ret_any hq
  · exact h.elim
/-- two lists in a list -/
theorem dpy_two {S : Store} {i a b : Nat} {α β : Type} [DecidableEq α] [DecidableEq β] (e : En α) (f : En β) {xs : List α} {ys : List β} (h : S[i]? = some (.lst [.ref a, .ref b])) (ha : S[a]? = some (.lst (xs.map e.enc))) (hb : S[b]? = some (.lst (ys.map f.enc))) :
    DPy S (.ref i) (.list [.list (xs.map e.py), .list (ys.map f.py)]) := .lst h (.cons (.lst ha (dpys_map e S xs)) (.cons (.lst hb (dpys_map f S ys)) .nil))
theorem shaped_two {α β : Type} [DecidableEq α] [DecidableEq β] (e : En α) (f : En β) (xs : List α) (ys : List β) : SeqAt.shaped (.list [.list (xs.map e.py), .list (ys.map f.py)]) = true := by
  have h1 := depAll_map e xs
  have h2 := depAll_map f ys
  unfold SeqAt.shaped
  rw [Bool.and_eq_true]
  refine ⟨by simp only [PyData.canLay0, PyData.canLayAll0, layAll_map e xs, layAll_map f ys, Bool.and_self, Bool.true_and], decide_eq_true ?_⟩
  simp only [PyData.depth, PyData.depthAll]
  omega
theorem ne_two {S : Store} {ρ : DEnv} {Q : PQ} {E : PX} {i a b j c d : Nat} {α β : Type} [DecidableEq α] [DecidableEq β] (e : En α) (f : En β) {xs zs : List α} {ys us : List β} (h : S[i]? = some (.lst [.ref a, .ref b])) (ha : S[a]? = some (.lst (xs.map e.enc))) (hb : S[b]? = some (.lst (ys.map f.enc)))
    (h2 : S[j]? = some (.lst [.ref c, .ref d])) (hc : S[c]? = some (.lst (zs.map e.enc))) (hd : S[d]? = some (.lst (us.map f.enc))) (q : Q (.bl (!decide (xs = zs ∧ ys = us))) S) : pNe (.ref i) (.ref j) ρ S Q E :=
  pNe_gen ⟨_, _, dpy_two e f h ha hb, dpy_two e f h2 hc hd, shaped_two e f xs ys, shaped_two e f zs us, by
    simpa only [PyData.eqv, PyData.eqvAll, eqvAll_map, Bool.and_true, Bool.decide_and] using q⟩
/-! ### while -/
theorem loop_while {c : W} {u : WS} {DD : DEnds} {E : PX} (I : Nat → DEnv → Store → Prop) {ρ : DEnv} {S : Store} (m0 : Nat) (h0 : I m0 ρ S)
    (ht : ∀ (n : Nat) (ρ : DEnv) (S : Store) (N : DEnv → Store → Prop), I n ρ S → (∀ m ρ2 S2, m < n → I m ρ2 S2 → N ρ2 S2) → c ρ S (fun d S1 => ∃ k, d = .bl k ∧ if k = true then u ρ S1 ⟨N, DD.rt⟩ E else DD.nx ρ S1) E) : wsWhile c u ρ S DD E := by
  have key : ∀ k n ρ S, n < k → I n ρ S → whileN k c u ρ S DD E := by
    intro k
    induction k with
    | zero => intro n ρ S h; omega
    | succ k ih =>
      intro n ρ S h hI
      exact ht n ρ S _ hI fun m ρ2 S2 hm h2 => ih m ρ2 S2 (by omega) h2
  exact ⟨m0 + 1, key _ _ _ _ (Nat.lt_succ_self _) h0⟩
/-! ### the height that has room -/
def szI (w : Int) (l : Nat) : Int := 2 ^ l * w
def fstI (w : Int) (l : Nat) (p : Int) : Int := p / szI w l * szI w l
def heldI (ps : List Pl) (w : Int) (p : Int) (l : Nat) : Nat := (things ((ps.take (fstI w l p + szI w l).toNat).drop (fstI w l p).toNat)).length
def roomAt (ps : List Pl) (w s p : Int) (l : Nat) : Bool := decide ((heldI ps w p l : Int) < 2 ^ l * (w - s * l))
def lowN (ps : List Pl) (w s p : Int) (h : Nat) : Nat := ((List.range h).find? (roomAt ps w s p)).getD h
def sp_height_for : SPf
  | [.tup [.int _, .int w, .int s], .int h, .ref n, .int key], S, Q, _ => ∃ ps, S[n]? = some (shp ps) ∧ ps.length ≤ 100000 ∧ (0 ≤ h ∧ h ≤ 10 ∧ 1 ≤ w ∧ w ≤ 1000) ∧ Q (.int (lowN ps w s (seatN ps key ps.length) h.toNat)) S
  | _, _, _, _ => False
theorem len_height_for : ∀ ds S Q E, sp_height_for ds S Q E → ds.length = 4 := by
  intro ds S Q E h; unfold sp_height_for at h; split at h <;> first | rfl | exact h.elim
abbrev n_height_for : List Str := ["bounds", "height", "shelf", "key", "seat", "low", "first", "behind"]
def w_height_for : WS :=
  wsSeq (wsSet 4 (wCall sp_seat_of [wVar 2, wVar 3] [])) (wsSeq (wsForR1 (tN 5) (wVar 1) (wsSeq (wsAsg (tT [6, 7]) (wCall sp_stretch_of [wVar 0, wVar 5, wVar 4] [])) (wsIf (wOp pLt (wCall sp_held [wVar 2, wVar 6, wVar 7] []) (wCall sp_cap_of [wVar 0, wVar 5] [])) (wsRet (wVar 5)) (wsNil)))) (wsRet (wVar 1)))

theorem szI_pos {w : Int} {l : Nat} (hl : l ≤ 10) (h1 : 1 ≤ w) (h2 : w ≤ 1000) : 1 ≤ szI w l ∧ szI w l ≤ 1024000 := size_le hl h1 h2
theorem fstI_nonneg {w p : Int} {l : Nat} (hl : l ≤ 10) (h1 : 1 ≤ w) (h2 : w ≤ 1000) (hp : 0 ≤ p) : 0 ≤ fstI w l p := by
  have := szI_pos hl h1 h2
  exact Int.mul_nonneg (Int.ediv_nonneg hp (by omega)) (by omega)
theorem lowN_some {ps : List Pl} {w s p : Int} {h i : Nat} (hi : i < h) (hr : roomAt ps w s p i = true) (hno : ∀ j, j < i → roomAt ps w s p j = false) : lowN ps w s p h = i := by
  have : (List.range h).find? (roomAt ps w s p) = some i := by
    rw [List.find?_range_eq_some]
    exact ⟨hr, by simpa using hi, fun j hj => by simp [hno j hj]⟩
  simp [lowN, this]
theorem lowN_none {ps : List Pl} {w s p : Int} {h : Nat} (hno : ∀ j, j < h → roomAt ps w s p j = false) : lowN ps w s p h = h := by
  have : (List.range h).find? (roomAt ps w s p) = none := by
    rw [List.find?_eq_none]
    intro j hj
    simp at hj
    simp [hno j hj]
  simp [lowN, this]
theorem lowN_some' {ps : List Pl} {w s p : Int} {h i : Nat} (hi : i ≤ h) (hr : roomAt ps w s p i = true) (hno : ∀ j, j < i → roomAt ps w s p j = false) (hh : roomAt ps w s p h = true) : lowN ps w s p h = i := by
  rcases Nat.lt_or_ge i h with h2 | h2
  · exact lowN_some h2 hr hno
  · have : i = h := by omega
    subst this
    exact lowN_none hno
theorem ob_height_for : Ob n_height_for sp_height_for w_height_for := by
  intro ds S Q E hS hd h
  unfold sp_height_for at h
  split at h
  · rename_i t w s h1 n key
    obtain ⟨ps, hn, hl, ⟨h2, h3, h4, h5⟩, hq⟩ := h
    simp [w_height_for, startD, hn, sp_seat_of]
    refine ⟨ps, rfl, hl, by omega, by omega, ?_⟩
    generalize hseat : seatN ps key ps.length = seat at *
    refine loop_range (fun i ρ S' => S' = S ∧ (∃ x y z, ρ = [some (bnd t w s), some (.int h1), some (.ref n), some (.int key), some (.int seat), x, y, z]) ∧ ∀ j, j < i → roomAt ps w s seat j = false) ⟨rfl, ⟨none, none, none, rfl⟩, fun _ h => absurd h (by omega)⟩ ?_ ?_
    · rintro i ρ S' N hi ⟨rfl, ⟨x, y, z, rfl⟩, hno⟩ hN
      have hz := szI_pos (w := w) (l := i) (by omega) h4 h5
      have hf := fstI_nonneg (p := seat) (l := i) (by omega) h4 h5 (by omega)
      simp [sp_stretch_of, sp_held, sp_cap_of, setAll, hn]
      refine ⟨by omega, ps, rfl, ⟨hf, by show 0 ≤ fstI w i seat + szI w i; omega⟩, by omega, ?_⟩
      show (_ ≤ (heldI ps w seat i : Int) ∧ _) ∨ ((heldI ps w seat i : Int) < _ ∧ _)
      by_cases hr : (heldI ps w seat i : Int) < 2 ^ i * (w - s * i)
      · refine .inr ⟨hr, ret_same ?_⟩
        rw [lowN_some (i := i) (by omega) (by simpa [roomAt] using hr) hno] at hq
        exact hq
      · refine .inl ⟨by omega, hN _ _ ⟨rfl, ⟨_, _, _, rfl⟩, fun j hj => ?_⟩⟩
        by_cases hji : j = i
        · subst hji; simpa [roomAt] using hr
        · exact hno j (by omega)
    · rintro ρ S' ⟨rfl, ⟨x, y, z, rfl⟩, hno⟩
      simp
      rw [lowN_none hno] at hq
      rw [Int.toNat_of_nonneg h2] at hq
      exact ret_same hq
  · exact h.elim
theorem seatN_lt (ps : List Pl) (key : Int) : ∀ n, 0 < n → seatN ps key n < n
  | 0, h => by omega
  | n + 1, _ => by
    unfold seatN
    split
    · omega
    · rcases Nat.eq_zero_or_pos n with h | h
      · subst h; simp [seatN]
      · have := seatN_lt ps key n h; omega
/-! ### more rules -/
theorem hu_of {k : Nat} {A : Around} (r : Room k A) : A.units + 65 < cLine := by have := r.un; omega
theorem rds_intsM {K : PySem.W.Frag} {φ : List Addr} {H : Hp} : ∀ {ns : List Int} {vs : List V}, RDs K φ H (ns.map D.int) vs → vs = ns.map V.int
  | [], vs, h => by simpa [RDs] using h
  | n :: ns, vs, h => by
    obtain ⟨v, r, rfl, h1, h2⟩ := h.inv
    rw [rds_intsM h2, h1.int_inv]; rfl
def bSum : BPf
  | [.ref n] => fun _ S Q _ => ∃ ns : List Int, S[n]? = some (.lst (ns.map .int)) ∧ Q (.int ns.sum) S
  | _ => fail
section
variable {K : PySem.W.Frag} {mg : Str → Option Value} {WW : WX}
theorem pb_sum : PrB K mg WW bSum (rSum K) := by
  intro φ ρ S σ H Q ds vs r h
  unfold bSum at h
  split at h
  · obtain ⟨v, rfl, q0⟩ := r.one
    obtain ⟨rs, re, Q', E', ⟨ns, h1, hq⟩, hn, hx⟩ := h
    obtain ⟨a1, v1, rfl, _, e1, q1, _⟩ := rs.lst h1 q0
    rw [rds_intsM q1] at e1
    exact ⟨a1, ns, rfl, SqL.of e1, hn _ _ hq _ _ _ Ext.refl rs RD.int⟩
  · exact h.no.elim
/-- l.index(x) -/
def mIndex : D → List D → W
  | .ref n, [d] => fun _ S Q _ => ∃ ps p j z, DPy S (.ref n) (.list ps) ∧ DPy S d p ∧ SeqAt.shaped (.list ps) = true ∧ SeqAt.shaped p = true ∧ ps[j]? = some z ∧ PyData.eqv z p = true ∧
      (∀ (m : Nat) (z' : PyData), m < j → ps[m]? = some z' → PyData.eqv z' p = false) ∧ Q (.int (j : Nat)) S
  | _, _ => fail
theorem pm_index : PrM K mg WW mIndex (rIndexD K) := by
  intro φ ρ S σ H Q d ds x vs r1 r2 h
  unfold mIndex at h
  split at h
  · obtain ⟨v, rfl, r⟩ := r2.one
    obtain ⟨rs, re, Q', E', ⟨ps, p, j, z, d1, d2, s1, s2, hz, hzj, hno, hq⟩, hn, hx⟩ := h
    have dp1 := d1.dp rs r1
    cases d1 with
    | lst h1 h2 =>
      obtain ⟨a1, v1, rfl, ha, e1, q1, _⟩ := rs.lst h1 r1
      exact ⟨a1, v, p, ps, j, z, rfl, rfl, dp1, d2.dp rs r, s1, s2, hz, hzj, hno, hn _ _ hq _ _ _ Ext.refl rs RD.int⟩
  · exact h.no.elim
end
section
variable {X : Cx} {WW : WX} {e o : Expr} {es : List Expr} {apos cpos : Pos} {wo wa : W} {ws : List W}
theorem se_index (hu : X.A.units + 65 < cLine) (ho : PE X o (tm X.K X.mg WW wo)) (ha : PE X e (tm X.K X.mg WW wa)) (hbase : attributeBase o "index" X.env (eval o X.env) = eval o X.env := by rfl)
    (hs0 : starEach [e] X.env = (false, eval e X.env) :: starEach [] X.env := by rfl)
    (hfew : ((backTo cpos (starEach [e] X.env)).all (fun x => !x.1) && (backToKw cpos (keywordEach [] X.env)).all (fun x => x.1.isSome) && decide (([e] : List Expr).length + ([] : List Keyword).length + (if ([] : List Keyword).isEmpty then 0 else 1) < 30)) = true := by rfl)
    (hline : (apos.endLine == cpos.line) = true := by rfl) (hplain : (backTo cpos (starEach [] X.env)).any (·.1) = false := by rfl) : PE X (.Call (.Attribute o "index" apos) [e] [] cpos) (tm X.K X.mg WW (wM "list" mIndex wo [wa])) :=
  PE.conv (pe_bm PySem.F.plainAttrs_list PySem.F.slot_list_index PySem.F.type_list_index (mt_indexD hu) ho (sa_cons ha sa_nil hs0) hbase hfew hline hs0 hplain) (wM_go pm_index)
end
/-! range(i, j, c) in a comprehension -/
def rangeC (lo c : Int) (n : Nat) : List D := (List.range n).map fun k => .int (lo + (k : Nat) * c)
theorem rangeC_length (lo c : Int) (n : Nat) : (rangeC lo c n).length = n := by simp [rangeC]
theorem rangeC_get {lo c : Int} {n i : Nat} (h : i < n) : (rangeC lo c n)[i]? = some (.int (lo + (i : Nat) * c)) := by simp [rangeC, h]
def wCompR3 (vs : List Nat) (b : Tg) (w u t c e : W) : W := fun ρ S Q E => w ρ S (fun d S1 => u ρ S1 (fun d2 S2 => t ρ S2 (fun d3 S3 => ∃ (i j k : Int) (n : Nat), d = .int i ∧ d2 = .int j ∧ d3 = .int k ∧ RgC i j k n ∧ n ≤ 100000 ∧
  compG (fun _ => True) b c e (rangeC i k n) [] (wipeD ρ vs) S3 Q) E) E) E
theorem rgC_pos {len c : Int} (h0 : 0 ≤ len) (h1 : len ≤ 100000000) (h2 : 1 ≤ c) (h3 : c ≤ 100000000) : RgC 0 len c ((len + c - 1) / c).toNat := by
  have hs := rangeSize_pos h2 h0
  have hn : 0 ≤ (len + c - 1) / c := Int.ediv_nonneg (by omega) (by omega)
  have hb : (len + c - 1) / c ≤ len + c - 1 := Int.ediv_le_self _ (by omega)
  refine ⟨by omega, by omega, ?_, by rw [hs]; omega⟩
  unfold Builtin.Range.small
  rw [hs]
  simp only [Builtin.Range.rangeFitsLong, Bool.and_eq_true, Bool.or_eq_true, decide_eq_true_eq, beq_iff_eq, show c > 0 by omega, if_true]
  omega
theorem lc_rangeC {lo k : Int} {n : Nat} {g : TG} {tt : TT} {te : TE} {vs : List Nat} {σ : L2.St} {H1 : Hp} {D : Addr} {Qd : Hp → Prop} (Pv : Nat → Hp → Prop) (h0 : Pv 0 (upd H1 D (.lst [])))
    (hs : ∀ i H, i < n → Pv i H → g (.int (lo + (i : Nat) * k)) (L2.wipe σ vs) H fun σ2 H2 => L2.wipe σ2 vs = L2.wipe σ vs ∧ tt σ2 H2 fun b H3 =>
      if b = true then te σ2 H3 fun y H4 => ∃ acc, H4 D = some (.lst acc) ∧ acc.length < sizeLine ∧ Pv (i + 1) (upd H4 D (.lst (acc ++ [y]))) else Pv (i + 1) H3) (hd : ∀ H, Pv n H → Qd H) :
    ∃ W : Nat → Nat → Hp → Prop, (∃ m, W 0 m (upd H1 D (.lst []))) ∧ ∀ i m H, W i m H →
      ((Itc lo k n).stop i H ∧ Qd H) ∨ ((Itc lo k n).go i H ∧ ∃ Nx : Hp → Prop, (∀ H', Nx H' → ∃ m', m' < m ∧ W (i + 1) m' H') ∧ ∀ x H', (Itc lo k n).yld i H x H' → g x (L2.wipe σ vs) H' fun σ2 H2 => L2.wipe σ2 vs = L2.wipe σ vs ∧ tt σ2 H2 fun b H3 =>
        if b = true then te σ2 H3 fun y H4 => ∃ acc, H4 D = some (.lst acc) ∧ acc.length < sizeLine ∧ Nx (upd H4 D (.lst (acc ++ [y]))) else Nx H3) := by
  refine ⟨fun i m H => m = n - i ∧ i ≤ n ∧ Pv i H, ⟨n, by simp, Nat.zero_le _, h0⟩, ?_⟩
  rintro i m H ⟨rfl, hi, p⟩
  by_cases hlt : i < n
  · refine .inr ⟨hlt, Pv (i + 1), fun H' p' => ⟨n - (i + 1), by omega, rfl, hlt, p'⟩, fun x H' y => ?_⟩
    obtain ⟨e, y⟩ := y
    subst e y
    exact hs i _ hlt p
  · have e : i = n := by omega
    subst e
    exact .inl ⟨Nat.le_refl _, hd H p⟩
section
variable {X : Cx} {WW : WX} {vs : List Nat} {w wu wt c ee : W}
theorem lc_goR3 {g : TG} {b : Tg} (ho : ∀ φ ρ σ0 H d v (k : DEnv → Prop) (Q : L2.St → Hp → Prop), RE X.K φ H ρ (L2.wipe σ0 vs) → RD X.K φ H d v → b d ρ k → (∀ ρ' σ', k ρ' → RE X.K φ H ρ' σ' → L2.wipe σ' vs = L2.wipe σ0 vs → Q σ' H) → g v (L2.wipe σ0 vs) H Q)
    (σ : L2.St) (H : Hp) (Q : VK) (q : tm X.K X.mg WW (wCompR3 vs b w wu wt c ee) σ H Q) : tLc (iRng3 (tCons (tm X.K X.mg WW w) (tCons (tm X.K X.mg WW wu) (tCons (tm X.K X.mg WW wt) tNil)))) g (ttm X.K X.mg NoW c) (tm X.K X.mg NoW ee) vs σ H Q := by
  obtain ⟨φ, ρ, S, rs, re, Q', E', hw, hn, hx⟩ := q
  refine ⟨φ, ρ, S, rs, re, _, E', hw, fun d S1 h1 v φ1 H1 x1 rs1 rd1 => ?_, hx⟩
  refine ⟨φ1, ρ, S1, rs1, re.mono x1, _, E', h1, fun d2 S2 h2 v2 φ2 H2 x2 rs2 rd2 => ?_, fun c ρ2 S2 a u φ2 H2 σ2 x => hx c ρ2 S2 a u φ2 H2 σ2 (x1.trans x)⟩
  refine ⟨φ2, ρ, S2, rs2, (re.mono x1).mono x2, _, E', h2, fun d3 S3 ⟨i, j, k, n, e1, e2, e3, hz, hl, h3⟩ v3 φ3 H3 x3 rs3 rd3 => ?_, fun c ρ2 S2 a u φ2 H2 σ2 x => hx c ρ2 S2 a u φ2 H2 σ2 ((x1.trans x2).trans x)⟩
  subst e1 e2 e3
  rw [rd1.int_inv, rd2.int_inv, rd3.int_inv]
  refine ⟨i, j, k, n, rfl, hz, ?_⟩
  intro DD hD
  refine lc_rangeC (fun t H' => PN X.K φ3 H3 DD X.mg (rangeC i k n) (fun _ => True) b c ee (wipeD ρ vs) Q' t H') (pn_start rs3 hD (by rw [rangeC_length]; exact Nat.le_trans hl (by decide)) h3) ?_ ?_
  · intro t H' hi p
    exact pn_turn (σ := σ) hD ho p (rangeC_get hi) ((((re.mono x1).mono x2).mono x3).wipe vs) (fun φ4 S4 x4 rs4 hs4 => RD.int) (fun _ _ _ q => q) (fun _ _ _ q => q)
  · intro H' p
    exact pn_end hD p (Nat.le_of_eq (rangeC_length i k n)) fun d S3 a v φ4 H4 x => hn d S3 a v φ4 H4 (((x1.trans x2).trans x3).trans x)
end
section
variable {X : Cx} {WW : WX} {vs : List Nat} {w wu wt ce ee : W} {elt tg a e2 e3 : Expr} {ifs : List Expr} {scope : Scope} {own : List (Str × Nat)} {pos : Pos}
theorem se_lcR3 {b : Tg} {g : TG} {p p3 : Pos} (hc : X.calm = true) (hN : X.N.Nodup) (hgl : Gl X "range") (hm : X.mg "range" = none) (hi : PE X a (tm X.K X.mg WW w)) (hi2 : PE X e2 (tm X.K X.mg WW wu)) (hi3 : PE X e3 (tm X.K X.mg WW wt)) (ok : BlkOk X.N X.env.scope scope own) (hv : own.map (·.2) = vs) (hg : Blk X scope fun Y => PG Y tg g)
    (ho : ∀ φ ρ σ0 H d v (k : DEnv → Prop) (Q : L2.St → Hp → Prop), RE X.K φ H ρ (L2.wipe σ0 vs) → RD X.K φ H d v → b d ρ k → (∀ ρ' σ', k ρ' → RE X.K φ H ρ' σ' → L2.wipe σ' vs = L2.wipe σ0 vs → Q σ' H) → g v (L2.wipe σ0 vs) H Q)
    (ht : Blk X scope fun Y => PTs Y ifs (ttm X.K X.mg NoW ce)) (he : Blk X scope fun Y => PE Y elt (tm X.K X.mg NoW ee))
    (hst : starEach [a, e2, e3] X.env = (false, eval a X.env) :: starEach [e2, e3] X.env := by rfl) (hst2 : starEach [e2, e3] X.env = (false, eval e2 X.env) :: starEach [e3] X.env := by rfl)
    (hst3 : starEach [e3] X.env = (false, eval e3 X.env) :: starEach [] X.env := by rfl) (hpl : (backTo p3 (starEach [e2, e3] X.env)).any (·.1) = false := by rfl)
    (hs : ∀ x, foldedSetIterable (.Call (.Name "range" p) [a, e2, e3] [] p3) X.env x = pure x := by intro _; rfl) :
    PE X (.ListComp elt [⟨tg, .Call (.Name "range" p) [a, e2, e3] [] p3, ifs, 0⟩] scope pos) (tm X.K X.mg WW (wCompR3 vs b w wu wt ce ee)) := by
  subst hv
  exact PE.conv (pe_lc hc hN (pi_range3 hgl hm (pa_cons hi (pa_cons hi2 (pa_cons hi3 pa_nil hst3) hst2) hst) hst hpl) ok hg ht he hs) fun σ H Q q => lc_goR3 ho σ H Q q
end
section
variable {ρ : DEnv} {S : Store} {Q : PQ} {E : PX} {i : Nat} {a b c e u : W} {d : D}
@[simp] theorem e_sumL : bSum [.ref i] ρ S Q E = ∃ ns : List Int, S[i]? = some (.lst (ns.map .int)) ∧ Q (.int ns.sum) S := rfl
@[simp] theorem e_compR3 {vs : List Nat} {t : Tg} : wCompR3 vs t a b u c e ρ S Q E = a ρ S (fun d S1 => b ρ S1 (fun d2 S2 => u ρ S2 (fun d3 S3 => ∃ (i j k : Int) (n : Nat), d = .int i ∧ d2 = .int j ∧ d3 = .int k ∧ RgC i j k n ∧ n ≤ 100000 ∧
  compG (fun _ => True) t c e (rangeC i k n) [] (wipeD ρ vs) S3 Q) E) E) E := rfl
end
def calmI (w s : Int) (l : Nat) : Int := 2 ^ l * (w - s * (l + 1))
def partHeld (ps : List Pl) (w : Int) (l k : Nat) : Nat := (things ((ps.take ((k : Int) * szI w l + szI w l).toNat).drop ((k : Int) * szI w l).toNat)).length
def exK (ps : List Pl) (w s : Int) (l k : Nat) : Int := if 0 < (partHeld ps w l k : Int) - calmI w s l then (partHeld ps w l k : Int) - calmI w s l else 0
def partsN (ps : List Pl) (w : Int) (l : Nat) : Nat := (((ps.length : Int) + szI w l - 1) / szI w l).toNat
def excessAt (ps : List Pl) (w s : Int) (l : Nat) : Int := ((List.range (partsN ps w l)).map (exK ps w s l)).sum
def excessI (ps : List Pl) (w s : Int) (h : Nat) : Int := ((List.range h).map (excessAt ps w s)).sum
def sp_excess_at : SPf
  | [.tup [.int _, .int w, .int s], .int l, .ref n], S, Q, _ => ∃ ps, S[n]? = some (shp ps) ∧ ps.length ≤ 90000 ∧ (0 ≤ l ∧ l ≤ 9 ∧ 1 ≤ w ∧ w ≤ 1000) ∧ Q (.int (excessAt ps w s l.toNat)) S
  | _, _, _, _ => False
def sp_excess_of : SPf
  | [.tup [.int _, .int w, .int s], .int h, .ref n], S, Q, _ => ∃ ps, S[n]? = some (shp ps) ∧ ps.length ≤ 90000 ∧ (0 ≤ h ∧ h ≤ 10 ∧ 1 ≤ w ∧ w ≤ 1000) ∧ Q (.int (excessI ps w s h.toNat)) S
  | _, _, _, _ => False
theorem len_excess_at : ∀ ds S Q E, sp_excess_at ds S Q E → ds.length = 3 := by
  intro ds S Q E h; unfold sp_excess_at at h; split at h <;> first | rfl | exact h.elim
theorem len_excess_of : ∀ ds S Q E, sp_excess_of ds S Q E → ds.length = 3 := by
  intro ds S Q E h; unfold sp_excess_of at h; split at h <;> first | rfl | exact h.elim
abbrev n_excess_at : List Str := ["bounds", "low", "shelf", "size", "calm", "first"]
def w_excess_at : WS :=
  wsSeq (wsSet 3 (wCall sp_places_of [wVar 0, wVar 1] [])) (wsSeq (wsSet 4 (wCall sp_calm_of [wVar 0, wVar 1] [])) (wsRet (wB bSum [wCompR3 [5] (tN 5) (ret (.int 0)) (wB bLen [wVar 2]) (wVar 3) (wYes) (wB bMax [ret (.int 0), wOp pSub (wCall sp_held [wVar 2, wVar 5, wOp pAdd (wVar 5) (wVar 3)] []) (wVar 4)])])))

abbrev n_excess_of : List Str := ["bounds", "height", "shelf", "low"]
def w_excess_of : WS :=
  wsRet (wB bSum [wCompR1 [3] (tN 3) (wVar 1) (wYes) (wCall sp_excess_at [wVar 0, wVar 3, wVar 2] [])])

theorem comp_rangeC {b : Tg} {e : W} {Q : PQ} {ρ : DEnv} {S : Store} {lo c : Int} {n : Nat} (f : Nat → D)
    (ht : ∀ i, i < n → ∀ N : D → Store → Prop, N (f i) S → b (.int (lo + (i : Nat) * c)) ρ fun ρ1 => e ρ1 S N NoE)
    (hq : Q (.ref S.length) (S ++ [.lst ((List.range n).map f)])) : compG (fun _ => True) b wYes e (rangeC lo c n) [] ρ S Q := by
  refine comp_inv (fun i acc S' => S' = S ∧ acc = ((List.range n).take i).map f) (rangeC lo c n) 0 [] S ⟨rfl, by simp⟩ (fun i acc S' h => trivial) ?_ ?_
  · rintro i x acc S' N hx ⟨rfl, rfl⟩ hN
    have hl : i < n := by
      have := (List.getElem?_eq_some_iff.mp hx).1
      rwa [rangeC_length] at this
    rw [rangeC_get hl] at hx
    cases hx
    have := ht i hl (fun y S2 => N ((((List.range n).take (0 + i)).map f) ++ [y]) S2) (hN _ _ ⟨rfl, by
      rw [show 0 + i + 1 = (0 + i) + 1 from rfl, List.take_add_one, List.map_append]
      simp only [Nat.zero_add]
      rw [List.getElem?_range hl]; rfl⟩)
    simpa using this
  · rintro acc S' ⟨rfl, rfl⟩
    rw [List.take_of_length_le (by simp [rangeC_length])]
    exact hq
theorem ob_excess_at : Ob n_excess_at sp_excess_at w_excess_at := by
  intro ds S Q E hS hd h
  unfold sp_excess_at at h
  split at h
  · rename_i t w s l n
    obtain ⟨ps, hn, hl, ⟨h2, h3, h4, h5⟩, hq⟩ := h
    have hz := szI_pos (w := w) (l := l.toNat) (by omega) h4 h5
    have hpl : 0 ≤ ((ps.length : Int) + szI w l.toNat - 1) / szI w l.toNat := Int.ediv_nonneg (by omega) (by omega)
    have hpl2 : ((ps.length : Int) + szI w l.toNat - 1) / szI w l.toNat ≤ ps.length := by
      rcases Nat.eq_zero_or_pos ps.length with h | h
      · rw [h, Int.ediv_eq_zero_of_lt (by omega) (by omega)]; omega
      · refine Int.ediv_le_of_le_mul (by omega) ?_
        have h := Int.mul_nonneg (show 0 ≤ (ps.length : Int) - 1 by omega) (show 0 ≤ szI w l.toNat - 1 by omega)
        rw [Int.sub_mul, Int.mul_sub] at h; omega
    simp [w_excess_at, startD, hn, sp_places_of, sp_calm_of]
    refine ⟨by omega, partsN ps w l.toNat, rgC_pos (by omega) (by omega) hz.1 (Int.le_trans hz.2 (by decide)), by unfold partsN; omega, ?_⟩
    refine comp_rangeC (fun k => .int (exK ps w s l.toNat k)) (fun k hk N hN => ?_) ?_
    · simp [sp_held, hn]
      have hk0 : 0 ≤ (k : Int) * szI w l.toNat := Int.mul_nonneg (by omega) (by omega)
      refine ⟨ps, rfl, ⟨hk0, by show 0 ≤ (k : Int) * szI w l.toNat + szI w l.toNat; omega⟩, ?_⟩
      have : exK ps w s l.toNat k = if calmI w s l.toNat < (partHeld ps w l.toNat k : Int) then (partHeld ps w l.toNat k : Int) - calmI w s l.toNat else 0 := by
        unfold exK
        by_cases hc : calmI w s l.toNat < (partHeld ps w l.toNat k : Int)
        · rw [if_pos hc, if_pos (by omega)]
        · rw [if_neg hc, if_neg (by omega)]
      rw [this] at hN
      unfold calmI at hN
      rw [Int.toNat_of_nonneg h2] at hN
      exact hN
    · simp
      refine ⟨(List.range (partsN ps w l.toNat)).map (exK ps w s l.toNat), by simp, ret_pure hS (by simp only [Cl]) hq⟩
  · exact h.elim
theorem ob_excess_of : Ob n_excess_of sp_excess_of w_excess_of := by
  intro ds S Q E hS hd h
  unfold sp_excess_of at h
  split at h
  · rename_i t w s h1 n
    obtain ⟨ps, hn, hl, ⟨h2, h3, h4, h5⟩, hq⟩ := h
    simp [w_excess_of, startD, hn]
    refine ⟨by omega, by omega, comp_rangeY (fun k => .int (excessAt ps w s k)) (fun k hk N hN => ?_) ?_⟩
    · simp [sp_excess_at, hn]
      exact ⟨ps, rfl, hl, by omega, hN⟩
    · simp
      refine ⟨(List.range h1.toNat).map (excessAt ps w s), by simp, ret_pure hS (by simp only [Cl]) hq⟩
  · exact h.elim
/-! ### a thing that lies twice -/
def NoEq (ts : List Th) : Prop := ∀ i, i + 1 < ts.length → ts[i]? ≠ ts[i + 1]?
def Rises (ts : List Th) : Prop := ts.Pairwise fun a b => a.1 < b.1
instance (ts : List Th) : Decidable (Rises ts) := by unfold Rises; infer_instance
def Twice (ps : List Pl) (i : Nat) (t : Th) : Prop := ps[i]? = some (some t) ∧ (things (ps.take i)).getLast? = some t ∧ NoEq (things (ps.take i))
def Sec (ps : List Pl) : Option Nat → Prop
  | none => NoEq (things ps)
  | some i => ∃ t, Twice ps i t
def Mend (ps qs : List Pl) : Prop := (NoEq (things ps) ∧ qs = ps) ∨ ∃ i t, Twice ps i t ∧ qs = ps.set i none
theorem NoEq.nil : NoEq [] := fun i h => by simp at h
theorem NoEq.snoc {ts : List Th} {t : Th} (h : NoEq ts) (hl : ts.getLast? ≠ some t) : NoEq (ts ++ [t]) := by
  intro i hi
  simp at hi
  by_cases h2 : i + 1 < ts.length
  · rw [List.getElem?_append_left (by omega), List.getElem?_append_left h2]; exact h i h2
  · have e : i + 1 = ts.length := by omega
    rw [List.getElem?_append_left (by omega), List.getElem?_append_right (by omega), e]
    simp
    rw [List.getLast?_eq_getElem?, ← e] at hl
    simpa using hl
def sp_second_of : SPf
  | [.ref n], S, Q, _ => ∃ ps, S[n]? = some (shp ps) ∧ ps.length ≤ 100000 ∧ ∀ r, Sec ps r → Q (optI r) S
  | _, _, _, _ => False
def sp_mended : SPf
  | [.ref n], S, Q, _ => ∃ ps, S[n]? = some (shp ps) ∧ ps.length ≤ 100000 ∧ ∀ qs, Mend ps qs → Q (.ref S.length) (S ++ [shp qs])
  | _, _, _, _ => False
def sp_is_straight : SPf
  | [.ref n], S, Q, _ => ∃ ps, S[n]? = some (shp ps) ∧ ps.length ≤ 100000 ∧ Q (.bl (decide (Rises (things ps)))) S
  | _, _, _, _ => False
def sp_is_sound : SPf
  | [.ref n], S, Q, _ => ∃ ps, S[n]? = some (shp ps) ∧ ps.length ≤ 100000 ∧ ∀ qs, Mend ps qs → Q (.bl (decide (Rises (things qs)))) S
  | _, _, _, _ => False
theorem len_second_of : ∀ ds S Q E, sp_second_of ds S Q E → ds.length = 1 := by
  intro ds S Q E h; unfold sp_second_of at h; split at h <;> first | rfl | exact h.elim
theorem len_mended : ∀ ds S Q E, sp_mended ds S Q E → ds.length = 1 := by
  intro ds S Q E h; unfold sp_mended at h; split at h <;> first | rfl | exact h.elim
theorem len_is_straight : ∀ ds S Q E, sp_is_straight ds S Q E → ds.length = 1 := by
  intro ds S Q E h; unfold sp_is_straight at h; split at h <;> first | rfl | exact h.elim
theorem len_is_sound : ∀ ds S Q E, sp_is_sound ds S Q E → ds.length = 1 := by
  intro ds S Q E h; unfold sp_is_sound at h; split at h <;> first | rfl | exact h.elim
abbrev n_second_of : List Str := ["shelf", "last", "place"]
def w_second_of : WS :=
  wsSeq (wsSet 1 (wTup [])) (wsSeq (wsForR1 (tN 2) (wB bLen [wVar 0]) (wsIf (wOp pNe (wOp pIx (wVar 0) (wVar 2)) (wTup [])) (wsSeq (wsIf (wOp pEq (wOp pIx (wVar 0) (wVar 2)) (wVar 1)) (wsRet (wVar 2)) (wsNil)) (wsSet 1 (wOp pIx (wVar 0) (wVar 2)))) (wsNil))) (wsRet (ret .non)))

abbrev n_mended : List Str := ["shelf", "slab", "place"]
def w_mended : WS :=
  wsSeq (wsSet 1 (wB bList [wVar 0])) (wsSeq (wsSet 2 (wCall sp_second_of [wVar 0] [])) (wsSeq (wsIf (wOp1 pNotN (wVar 2)) (wsSub (wVar 1) (wVar 2) (wTup [])) (wsNil)) (wsRet (wVar 1))))

abbrev n_is_straight : List Str := ["shelf", "things", "thing", "k"]
def w_is_straight : WS :=
  wsSeq (wsSet 1 (wComp [2] (tN 2) (wVar 0) (wOp pNe (wVar 2) (wTup [])) (wVar 2))) (wsSeq (wsForR2 (tN 3) (ret (.int 1)) (wB bLen [wVar 1]) (wsIf (wOp pGe (wOp pIx (wOp pIx (wVar 1) (wOp pSub (wVar 3) (ret (.int 1)))) (ret (.int 0))) (wOp pIx (wOp pIx (wVar 1) (wVar 3)) (ret (.int 0)))) (wsRet (ret (.bl false))) (wsNil))) (wsRet (ret (.bl true))))

abbrev n_is_sound : List Str := ["shelf"]
def w_is_sound : WS :=
  wsRet (wCall sp_is_straight [wCall sp_mended [wVar 0] []] [])

theorem Mend.len {ps qs : List Pl} (h : Mend ps qs) : qs.length = ps.length := by
  rcases h with ⟨_, rfl⟩ | ⟨i, t, _, rfl⟩ <;> simp
theorem ob_second_of : Ob n_second_of sp_second_of w_second_of := by
  intro ds S Q E hS hd h
  unfold sp_second_of at h
  split at h
  · rename_i n
    obtain ⟨ps, hn, hl, hq⟩ := h
    simp [w_second_of, startD, hn]
    refine ⟨by omega, ?_⟩
    refine loop_range (fun i ρ S' => S' = S ∧ NoEq (things (ps.take i)) ∧ ∃ x, ρ = [some (.ref n), some (ePl.enc (things (ps.take i)).getLast?), x]) ⟨rfl, by simpa [things] using NoEq.nil, none, rfl⟩ ?_ ?_
    · rintro i ρ S' N hi ⟨rfl, hno, x, rfl⟩ hN
      have e := pl_at (ps := ps) (i := i) hi
      have tn := take_next hi
      simp [hn, e]
      cases e2 : ps[i] with
      | none =>
        rw [e2] at tn
        have tt : things (ps.take (i + 1)) = things (ps.take i) := by rw [tn, things_app, things_none]; simp
        simp
        exact hN _ _ ⟨rfl, by rw [tt]; exact hno, some (.int i), by rw [tt]⟩
      | some t =>
        rw [e2] at tn
        have tt : things (ps.take (i + 1)) = things (ps.take i) ++ [t] := by rw [tn, things_app, things_some]
        have step : (things (ps.take i)).getLast? ≠ some t → N [some (.ref n), some (.tup [.int t.1, .int t.2]), some (.int i)] S' := fun h =>
          hN _ _ ⟨rfl, by rw [tt]; exact hno.snoc h, some (.int i), by rw [tt]; simp⟩
        simp
        cases e3 : (things (ps.take i)).getLast? with
        | none => simp; refine ⟨_, hn, _, e, ?_⟩; rw [e2]; exact step (by rw [e3]; simp)
        | some u =>
          simp
          by_cases he : t = u
          · subst he
            simp
            exact ret_same (hq (some i) ⟨t, by rw [List.getElem?_eq_getElem hi, e2], e3, hno⟩)
          · have h1 : ¬ (t.1 = u.1 ∧ t.2 = u.2) := fun h => he (Prod.ext h.1 h.2)
            simp [h1]
            refine ⟨fun h2 h3 => h1 ⟨h2, h3⟩, _, hn, _, e, ?_⟩
            rw [e2]
            refine step ?_
            rw [e3]; simpa using fun h => he h.symm
    · rintro ρ S' ⟨rfl, hno, x, rfl⟩
      rw [List.take_of_length_le (Nat.le_refl _)] at hno
      simp
      exact ret_same (hq none hno)
  · exact h.elim
theorem ob_mended : Ob n_mended sp_mended w_mended := by
  intro ds S Q E hS hd h
  unfold sp_mended at h
  split at h
  · rename_i n
    obtain ⟨ps, hn, hl, hq⟩ := h
    simp [w_mended, startD, hn, sp_second_of, app_get hn]
    refine ⟨ps, rfl, hl, fun r hr => ?_⟩
    cases r with
    | none =>
      simp [optI, isNon]
      exact ret_any (hq _ (.inl ⟨hr, rfl⟩))
    | some i =>
      obtain ⟨t, ht⟩ := hr
      have hi := (List.getElem?_eq_some_iff.mp ht.1).1
      simp [optI, isNon]
      refine ⟨_, ixN_ok (by omega) (by omega), ret_any ?_⟩
      rw [show D.tup [] = ePl.enc none from rfl, map_set]
      exact hq _ (.inr ⟨i, t, ht, by simp⟩)
  · exact h.elim
theorem rises_of {ts : List Th} (h : ∀ i (hi : i + 1 < ts.length), ts[i].1 < ts[i + 1].1) : Rises ts := by
  unfold Rises
  rw [List.pairwise_iff_getElem]
  intro i j hi hj hij
  obtain ⟨k, rfl⟩ : ∃ k, j = i + 1 + k := ⟨j - i - 1, by omega⟩
  clear hij
  induction k with
  | zero => exact h i hj
  | succ k ih => exact Int.lt_trans (ih (by omega)) (h (i + 1 + k) hj)
theorem rises_at {ts : List Th} (h : Rises ts) (i : Nat) (hi : i + 1 < ts.length) : ts[i].1 < ts[i + 1].1 := List.pairwise_iff_getElem.mp h i (i + 1) (by omega) hi (by omega)
theorem things_le (ps : List Pl) : (things ps).length ≤ ps.length := List.length_filterMap_le _ _
theorem ob_is_straight : Ob n_is_straight sp_is_straight w_is_straight := by
  intro ds S Q E hS hd h
  unfold sp_is_straight at h
  split at h
  · rename_i n
    obtain ⟨ps, hn, hl, hq⟩ := h
    have htl := things_le ps
    simp [w_is_straight, startD, hn, atL, e_forR2]
    refine comp_full hn (by simp) ?_
    simp
    refine ⟨by omega, ?_⟩
    refine loop_range (fun i ρ S' => S' = S ++ [thp (things ps)] ∧ (∃ x, ρ = [some (.ref n), some (.ref S.length), none, x]) ∧ ∀ j, j < i → ∀ (hj : j + 1 < (things ps).length), (things ps)[j].1 < (things ps)[j + 1].1) ⟨rfl, ⟨none, rfl⟩, fun _ h => absurd h (by omega)⟩ ?_ ?_
    · rintro i ρ S' N hi ⟨rfl, ⟨x, rfl⟩, hno⟩ hN
      have e0 := th_at (ts := things ps) (i := i) (by omega)
      have e1 := th_at (ts := things ps) (i := i + 1) (by omega)
      have e2 : (1 : Int) + i = ((i + 1 : Nat) : Int) := by omega
      have e3 : ((i + 1 : Nat) : Int) - 1 = (i : Nat) := by omega
      simp only [e2]
      simp [-Int.natCast_add, e3, e0, e1, jx0]
      by_cases hlt : (things ps)[i].1 < (things ps)[i + 1].1
      · refine .inl ⟨hlt, hN _ _ ⟨rfl, ⟨_, rfl⟩, fun j hj hj2 => ?_⟩⟩
        by_cases hji : j = i
        · subst hji; exact hlt
        · exact hno j (by omega) hj2
      · refine .inr ⟨by omega, ?_⟩
        have : ¬ Rises (things ps) := fun h => hlt (rises_at h i (by omega))
        rw [decide_eq_false this] at hq
        exact ret_pure hS (by simp only [Cl]) hq
    · rintro ρ S' ⟨rfl, ⟨x, rfl⟩, hno⟩
      have : Rises (things ps) := rises_of fun i hi => hno i (by omega) hi
      rw [decide_eq_true this] at hq
      simp
      exact ret_pure hS (by simp only [Cl]) hq
  · exact h.elim
theorem ob_is_sound : Ob n_is_sound sp_is_sound w_is_sound := by
  intro ds S Q E hS hd h
  unfold sp_is_sound at h
  split at h
  · rename_i n
    obtain ⟨ps, hn, hl, hq⟩ := h
    simp [w_is_sound, startD, sp_mended, hn]
    refine ⟨ps, rfl, hl, fun qs hm => ?_⟩
    simp [sp_is_straight]
    exact ⟨qs, rfl, by rw [hm.len]; exact hl, ret_pure hS (by simp only [Cl]) (hq qs hm)⟩
  · exact h.elim
/-! ### things moved one by one -/
abbrev Cs := List (Nat × Th)
def Srt (cs : Cs) : Prop := cs.Pairwise fun a b => a.1 < b.1
structure OnF (k : Nat) (cs : Cs) (s : List Pl) : Prop where
  at' : ∀ c ∈ cs, k ≤ c.1 ∧ s[c.1 - k]? = some (some c.2)
  no : ∀ x, x < s.length → (∀ c ∈ cs, c.1 ≠ k + x) → s[x]? = some none
  srt : Srt cs
theorem OnF.things : ∀ {s : List Pl} {k : Nat} {cs : Cs}, OnF k cs s → things s = cs.map (·.2)
  | [], k, cs, h => by
    cases cs with
    | nil => rfl
    | cons c cs => have := (h.at' c (by simp)).2; simp at this
  | none :: s, k, cs, h => by
    have ih := OnF.things (s := s) (k := k + 1) (cs := cs) ⟨fun c hc => by
      obtain ⟨h1, h2⟩ := h.at' c hc
      have : c.1 ≠ k := fun e => by rw [e, Nat.sub_self] at h2; simp at h2
      refine ⟨by omega, ?_⟩
      rw [show c.1 - k = (c.1 - (k + 1)) + 1 by omega] at h2
      simpa using h2, fun x hx hc => by
      have := h.no (x + 1) (by simp; omega) (fun c hc' => by have := hc c hc'; omega)
      simpa using this, h.srt⟩
    rw [← ih]; rfl
  | some t :: s, k, cs, h => by
    cases cs with
    | nil => have := h.no 0 (by simp) (fun c hc => by simp at hc); simp at this
    | cons c cs =>
      obtain ⟨hc1, hc2⟩ := h.at' c (by simp)
      have hs := List.pairwise_cons.mp h.srt
      have hck : c.1 = k := by
        refine Classical.byContradiction fun hne => ?_
        have := h.no 0 (by simp) (fun d hd => by
          rcases List.mem_cons.mp hd with rfl | hd
          · omega
          · have := hs.1 d hd; omega)
        simp at this
      have hct : c.2 = t := by rw [hck, Nat.sub_self] at hc2; simpa using hc2.symm
      have ih := OnF.things (s := s) (k := k + 1) (cs := cs) ⟨fun d hd => by
        obtain ⟨h1, h2⟩ := h.at' d (by simp [hd])
        have := hs.1 d hd
        refine ⟨by omega, ?_⟩
        rw [show d.1 - k = (d.1 - (k + 1)) + 1 by omega] at h2
        simpa using h2, fun x hx hc => by
        have := h.no (x + 1) (by simp; omega) (fun d hd => by
          rcases List.mem_cons.mp hd with rfl | hd
          · omega
          · have := hc d hd; omega)
        simpa using this, hs.2⟩
      rw [List.map_cons, ← ih, hct]; rfl
abbrev On (cs : Cs) (s : List Pl) : Prop := OnF 0 cs s
theorem On.lt {cs : Cs} {s : List Pl} (h : On cs s) {c : Nat × Th} (hc : c ∈ cs) : c.1 < s.length := by
  have := (h.at' c hc).2
  simpa using (List.getElem?_eq_some_iff.mp this).1
theorem On.lay {cs cs' : Cs} {s : List Pl} {y : Nat} {t : Th} (h : On cs s) (hy : y < s.length) (hn : ∀ c ∈ cs, c.1 ≠ y) (hs : Srt cs') (hm : ∀ c, c ∈ cs' ↔ c ∈ cs ∨ c = (y, t)) : On cs' (s.set y (some t)) := by
  refine ⟨fun c hc => ⟨Nat.zero_le _, ?_⟩, fun x hx hc => ?_, hs⟩
  · rcases (hm c).mp hc with h1 | rfl
    · have := (h.at' c h1).2
      have hne := hn c h1
      rw [List.getElem?_set_ne (by simp; omega)]; exact this
    · simp [hy]
  · have h1 := hc (y, t) ((hm _).mpr (.inr rfl))
    rw [List.getElem?_set_ne (by simp at h1; omega)]
    exact h.no x (by simpa using hx) fun c h2 => hc c ((hm c).mpr (.inl h2))
theorem On.clear {cs cs' : Cs} {s : List Pl} {x : Nat} (h : On cs s) (hx : x < s.length) (hs : Srt cs') (hm : ∀ c, c ∈ cs' ↔ c ∈ cs ∧ c.1 ≠ x) : On cs' (s.set x none) := by
  refine ⟨fun c hc => ⟨Nat.zero_le _, ?_⟩, fun z hz hc => ?_, hs⟩
  · obtain ⟨h1, h2⟩ := (hm c).mp hc
    rw [List.getElem?_set_ne (by simp; omega)]; exact (h.at' c h1).2
  · by_cases hzx : z = x
    · subst hzx; simp [hx]
    · rw [List.getElem?_set_ne (by omega)]
      refine h.no z (by simpa using hz) fun c h2 h3 => ?_
      exact hc c ((hm c).mpr ⟨h2, by omega⟩) h3
/-- what the rows ask behind each write -/
def RowsOk (ts : List Th) (s : List Pl) : Prop := things s = ts ∨ ∃ l t r, ts = l ++ t :: r ∧ things s = l ++ t :: t :: r
def Safe (ts : List Th) : List Wr → List Pl → (List Pl → Prop) → Prop
  | [], s, F => F s
  | w :: ws, s, F => (w.2 ≠ none → s[w.1.toNat]? = some none) ∧ (0 ≤ w.1 ∧ w.1 < s.length) ∧ RowsOk ts (s.set w.1.toNat w.2) ∧ Safe ts ws (s.set w.1.toNat w.2) F
theorem Safe.app {ts : List Th} : ∀ {a b : List Wr} {s : List Pl} {F : List Pl → Prop}, Safe ts a s (fun s' => Safe ts b s' F) → Safe ts (a ++ b) s F
  | [], _, _, _, h => h
  | w :: a, b, s, F, h => ⟨h.1, h.2.1, h.2.2.1, Safe.app h.2.2.2⟩
theorem Srt.app {a b : Cs} : Srt (a ++ b) ↔ Srt a ∧ Srt b ∧ ∀ x ∈ a, ∀ y ∈ b, x.1 < y.1 := List.pairwise_append
theorem Srt.cons {c : Nat × Th} {b : Cs} : Srt (c :: b) ↔ (∀ y ∈ b, c.1 < y.1) ∧ Srt b := List.pairwise_cons
/-- one thing moved -/
theorem Safe.move {L R : Cs} {x y : Nat} {t : Th} {s : List Pl} {F : List Pl → Prop} {ws : List Wr} (h : On (L ++ (x, t) :: R) s) (hs : Srt (L ++ (y, t) :: R)) (hy : y < s.length) (hxy : x ≠ y)
    (k : ∀ s', On (L ++ (y, t) :: R) s' → s'.length = s.length → Safe (L.map (·.2) ++ t :: R.map (·.2)) ws s' F) : Safe (L.map (·.2) ++ t :: R.map (·.2)) (((y : Int), some t) :: ((x : Int), none) :: ws) s F := by
  have hx := h.lt (c := (x, t)) (by simp)
  obtain ⟨a1, a2, a3⟩ := Srt.app.mp h.srt
  obtain ⟨b1, b2, b3⟩ := Srt.app.mp hs
  obtain ⟨a4, a5⟩ := Srt.cons.mp a2
  obtain ⟨b4, b5⟩ := Srt.cons.mp b2
  have hny : ∀ c ∈ L ++ (x, t) :: R, c.1 ≠ y := fun c hc => by
    rcases List.mem_append.mp hc with hc | hc
    · have := b3 c hc (y, t) (by simp); simp at this; omega
    · rcases List.mem_cons.mp hc with rfl | hc
      · exact hxy
      · have := b4 c hc; simp at this; omega
  have hLx : ∀ c ∈ L, c.1 ≠ x := fun c hc => by have := a3 c hc (x, t) (by simp); simp at this; omega
  have hRx : ∀ c ∈ R, c.1 ≠ x := fun c hc => by have := a4 c hc; simp at this; omega
  -- both
  have both : ∃ cs' : Cs, On cs' (s.set y (some t)) ∧ cs'.map (·.2) = L.map (·.2) ++ t :: t :: R.map (·.2) ∧ ∀ c, c ∈ cs' ↔ c ∈ L ++ (x, t) :: R ∨ c = (y, t) := by
    rcases Nat.lt_or_ge x y with hlt | hge
    · refine ⟨L ++ (x, t) :: (y, t) :: R, ?_, by simp, ?_⟩
      · refine h.lay hy hny (Srt.app.mpr ⟨a1, Srt.cons.mpr ⟨fun c hc => ?_, b2⟩, fun c hc d hd => ?_⟩) ?_
        · rcases List.mem_cons.mp hc with rfl | hc
          · exact hlt
          · exact a4 c hc
        · rcases List.mem_cons.mp hd with rfl | hd
          · exact a3 c hc _ (by simp)
          · exact b3 c hc d hd
        · intro c; simp only [List.mem_append, List.mem_cons, or_assoc, or_left_comm, or_comm]
      · intro c; simp only [List.mem_append, List.mem_cons, or_assoc, or_left_comm, or_comm]
    · refine ⟨L ++ (y, t) :: (x, t) :: R, ?_, by simp, ?_⟩
      · refine h.lay hy hny (Srt.app.mpr ⟨a1, Srt.cons.mpr ⟨fun c hc => ?_, a2⟩, fun c hc d hd => ?_⟩) ?_
        · rcases List.mem_cons.mp hc with rfl | hc
          · show y < x; omega
          · exact b4 c hc
        · rcases List.mem_cons.mp hd with rfl | hd
          · exact b3 c hc _ (by simp)
          · exact a3 c hc d hd
        · intro c; simp only [List.mem_append, List.mem_cons, or_assoc, or_left_comm, or_comm]
      · intro c; simp only [List.mem_append, List.mem_cons, or_assoc, or_left_comm, or_comm]
  obtain ⟨cs', o1, e1, m1⟩ := both
  have o2 : On (L ++ (y, t) :: R) ((s.set y (some t)).set x none) := o1.clear (by simpa using hx) hs fun c => by
    rw [m1]
    simp only [List.mem_append, List.mem_cons]
    constructor
    · rintro (h | h | h)
      · exact ⟨.inl (.inl h), hLx c h⟩
      · exact ⟨.inr h, by rw [h]; exact fun e => hxy e.symm⟩
      · exact ⟨.inl (.inr (.inr h)), hRx c h⟩
    · rintro ⟨(h | h | h) | h, h2⟩
      · exact .inl h
      · exact absurd (by rw [h]) h2
      · exact .inr (.inr h)
      · exact .inr (.inl h)
  refine ⟨fun _ => ?_, ⟨by simp, by simpa using hy⟩, .inr ⟨L.map (·.2), t, R.map (·.2), rfl, ?_⟩, fun hc => absurd rfl hc, ⟨by simp, by simpa using hx⟩, .inl ?_, ?_⟩
  · simp only [Int.toNat_natCast]
    exact h.no y hy fun c hc => by simpa using hny c hc
  · simp only [Int.toNat_natCast]; rw [o1.things, e1]
  · simp only [Int.toNat_natCast]; rw [o2.things]; simp
  · simp only [Int.toNat_natCast]; exact k _ o2 (by simp)
/-- place, aim, thing -/
abbrev Tr := Nat × Nat × Th
def trP (T : List Tr) : Cs := T.map fun x => (x.1, x.2.2)
def trA (T : List Tr) : Cs := T.map fun x => (x.2.1, x.2.2)
def trM (T : List Tr) : Cs := T.map fun x => (max x.1 x.2.1, x.2.2)
def trT (T : List Tr) : List Th := T.map fun x => x.2.2
def trW (x : Tr) : List Wr := [((x.2.1 : Int), some x.2.2), ((x.1 : Int), none)]
def onw (x : Tr) : Bool := decide (x.1 < x.2.1)
def bkw (x : Tr) : Bool := decide (x.2.1 < x.1)
theorem phase1 {ts : List Th} {ws : List Wr} {F : List Pl → Prop} : ∀ (U : List Tr) (R : Cs) (s : List Pl), On (trP U.reverse ++ R) s → Srt (trM U.reverse ++ R) → (∀ x ∈ U, x.2.1 < s.length) → ts = trT U.reverse ++ R.map (·.2) →
    (∀ s', On (trM U.reverse ++ R) s' → s'.length = s.length → Safe ts ws s' F) → Safe ts ((U.filter onw).flatMap trW ++ ws) s F
  | [], R, s, h, hs, hb, ht, k => k s (by simpa [trM, trP] using h) rfl
  | x :: U, R, s, h, hs, hb, ht, k => by
    obtain ⟨p, a, t⟩ := x
    have e1 : trP (((p, a, t) : Tr) :: U).reverse ++ R = trP U.reverse ++ (p, t) :: R := by simp [trP]
    have e2 : trM (((p, a, t) : Tr) :: U).reverse ++ R = trM U.reverse ++ (max p a, t) :: R := by simp [trM]
    have e3 : trT (((p, a, t) : Tr) :: U).reverse ++ R.map (·.2) = trT U.reverse ++ t :: R.map (·.2) := by simp [trT]
    rw [e1] at h
    rw [e2] at hs k
    rw [e3] at ht
    have ha := hb (p, a, t) (by simp)
    have hb' : ∀ x ∈ U, x.2.1 < s.length := fun x hx => hb x (by simp [hx])
    by_cases hpa : p < a
    · have hm : max p a = a := Nat.max_eq_right (by omega)
      rw [hm] at hs k
      have hf : (((p, a, t) : Tr) :: U).filter onw = (p, a, t) :: U.filter onw := by simp [onw, hpa]
      rw [hf]
      have hts : ts = (trP U.reverse).map (·.2) ++ t :: R.map (·.2) := by rw [ht]; simp [trP, trT]
      obtain ⟨a1, a2, a3⟩ := Srt.app.mp h.srt
      obtain ⟨b1, b2, b3⟩ := Srt.app.mp hs
      obtain ⟨b4, b5⟩ := Srt.cons.mp b2
      have hsrt : Srt (trP U.reverse ++ (a, t) :: R) := Srt.app.mpr ⟨a1, b2, fun c hc d hd => by
        have := a3 c hc (p, t) (by simp)
        rcases List.mem_cons.mp hd with rfl | hd
        · simp at this ⊢; omega
        · have h2 := b4 d hd; simp at this h2; omega⟩
      show Safe ts (trW (p, a, t) ++ (U.filter onw).flatMap trW ++ ws) s F
      rw [hts]
      refine Safe.move h hsrt ha (show p ≠ a by omega) fun s' h' hl => ?_
      rw [← hts]
      exact phase1 U ((a, t) :: R) s' h' hs (fun x hx => by rw [hl]; exact hb' x hx) (by rw [ht]; rfl) fun s2 h2 hl2 => k s2 h2 (by rw [hl2, hl])
    · have hm : max p a = p := Nat.max_eq_left (by omega)
      rw [hm] at hs k
      have hf : (((p, a, t) : Tr) :: U).filter onw = U.filter onw := by simp [onw, hpa]
      rw [hf]
      exact phase1 U ((p, t) :: R) s h hs hb' (by rw [ht]; rfl) k
theorem phase2 {ts : List Th} {ws : List Wr} {F : List Pl → Prop} : ∀ (T : List Tr) (L : Cs) (s : List Pl), On (L ++ trM T) s → Srt (L ++ trA T) → (∀ x ∈ T, x.2.1 < s.length) → ts = L.map (·.2) ++ trT T →
    (∀ s', On (L ++ trA T) s' → s'.length = s.length → Safe ts ws s' F) → Safe ts ((T.filter bkw).flatMap trW ++ ws) s F
  | [], L, s, h, hs, hb, ht, k => k s (by simpa [trM, trA] using h) rfl
  | (p, a, t) :: T, L, s, h, hs, hb, ht, k => by
    have e1 : L ++ trM ((p, a, t) :: T) = L ++ (max p a, t) :: trM T := rfl
    have e2 : L ++ trA ((p, a, t) :: T) = L ++ (a, t) :: trA T := rfl
    rw [e1] at h
    rw [e2] at hs k
    have ht' : ts = L.map (·.2) ++ t :: trT T := ht
    have ha := hb (p, a, t) (by simp)
    have hb' : ∀ x ∈ T, x.2.1 < s.length := fun x hx => hb x (by simp [hx])
    have re : ∀ X : Cs, L ++ (a, t) :: X = (L ++ [(a, t)]) ++ X := fun X => by simp
    by_cases hpa : a < p
    · have hm : max p a = p := Nat.max_eq_left (by omega)
      rw [hm] at h
      have hf : ((p, a, t) :: T).filter bkw = (p, a, t) :: T.filter bkw := by simp [bkw, hpa]
      rw [hf]
      have hmm : (trM T).map (·.2) = trT T := by simp [trM, trT]
      have hts : ts = L.map (·.2) ++ t :: (trM T).map (·.2) := by rw [ht', hmm]
      obtain ⟨a1, a2, a3⟩ := Srt.app.mp h.srt
      obtain ⟨a4, a5⟩ := Srt.cons.mp a2
      obtain ⟨b1, b2, b3⟩ := Srt.app.mp hs
      have hsrt : Srt (L ++ (a, t) :: trM T) := Srt.app.mpr ⟨a1, Srt.cons.mpr ⟨fun d hd => by have := a4 d hd; simp at this ⊢; omega, a5⟩, fun c hc d hd => by
        rcases List.mem_cons.mp hd with rfl | hd
        · exact b3 c hc _ (by simp)
        · exact a3 c hc d (by simp [hd])⟩
      show Safe ts (trW (p, a, t) ++ (T.filter bkw).flatMap trW ++ ws) s F
      rw [hts]
      refine Safe.move h hsrt ha (show p ≠ a by omega) fun s' h' hl => ?_
      rw [← hts]
      rw [re] at h' hs k
      exact phase2 T (L ++ [(a, t)]) s' h' hs (fun x hx => by rw [hl]; exact hb' x hx) (by rw [ht']; simp) fun s2 h2 hl2 => k s2 h2 (by rw [hl2, hl])
    · have hf : ((p, a, t) :: T).filter bkw = T.filter bkw := by simp [bkw, hpa]
      rw [hf]
      rw [re] at hs k
      have hm : max p a = a := Nat.max_eq_right (by omega)
      rw [hm, re] at h
      exact phase2 T (L ++ [(a, t)]) s h hs hb' (by rw [ht']; simp) k
/-- all moves, in their order -/
def trWs (T : List Tr) : List Wr := (T.filter onw).reverse.flatMap trW ++ (T.filter bkw).flatMap trW
theorem srt_max {T : List Tr} (hp : Srt (trP T)) (ha : Srt (trA T)) : Srt (trM T) := by
  unfold Srt trP trA trM at *
  rw [List.pairwise_map] at *
  exact (hp.and ha).imp fun {x y} h => by have := h.1; have := h.2; simp only [] at *; omega
theorem moves_safe {T : List Tr} {s : List Pl} {ws : List Wr} {F : List Pl → Prop} (h : On (trP T) s) (ha : Srt (trA T)) (hb : ∀ x ∈ T, x.2.1 < s.length) (k : ∀ s', On (trA T) s' → s'.length = s.length → Safe (trT T) ws s' F) : Safe (trT T) (trWs T ++ ws) s F := by
  unfold trWs
  rw [List.append_assoc, ← List.filter_reverse]
  refine phase1 T.reverse [] s (by simpa using h) (by simpa using srt_max h.srt ha) (fun x hx => hb x (by simpa using hx)) (by simp) fun s' h' hl => ?_
  refine phase2 T [] s' (by simpa using h') (by simpa using ha) (fun x hx => by rw [hl]; exact hb x hx) (by simp) fun s2 h2 hl2 => ?_
  exact k s2 (by simpa using h2) (by rw [hl2, hl])
/-! list(range(n)) -/
def wLRange (w : W) : W := fun ρ S Q E => w ρ S (fun d S1 => ∃ n : Int, d = .int n ∧ -1000000 ≤ n ∧ n ≤ 1000000 ∧ Q (.ref S1.length) (S1 ++ [.lst (rangeD 0 n.toNat)])) E
theorem rds_rangeV {K : PySem.W.Frag} {φ : List Addr} {H : Hp} {n : Int} : RDs K φ H (rangeD 0 n.toNat) (rgV 0 n) := by
  have : ∀ l : List Nat, RDs K φ H (l.map fun k => D.int (0 + (k : Nat))) (l.map fun i => V.int (0 + (i : Nat))) := fun l => by
    induction l with
    | nil => exact RDs.nil
    | cons k l ih => exact RDs.cons RD.int ih
  unfold rangeD rgV
  rw [show (n - 0).toNat = n.toNat by omega]
  exact this _
section
variable {X : Cx} {WW : WX} {w : W} {a : Expr}
theorem se_lrange {p p2 pos pos2 : Pos} (hg : Gl X "list") (hm : X.mg "list" = none) (hg2 : Gl X "range") (hm2 : X.mg "range" = none) (ha : PE X a (tm X.K X.mg WW w)) (hc : X.calm = true := by rfl)
    (na : starEach [a] X.env = (false, eval a X.env) :: starEach [] X.env := by rfl)
    (na2 : starEach [.Call (.Name "range" p2) [a] [] pos2] X.env = (false, eval (.Call (.Name "range" p2) [a] [] pos2) X.env) :: starEach [] X.env := by rfl) :
    PE X (.Call (.Name "list" p) [.Call (.Name "range" p2) [a] [] pos2] [] pos) (tm X.K X.mg WW (wLRange w)) := by
  refine PE.conv (pe_listRg hc hg hm (prg_1 hg2 hm2 ha na) na2) fun σ H Q q => ?_
  obtain ⟨φ, ρ, S, rs, re, Q', E', hw, hn, hx⟩ := q
  refine ⟨φ, ρ, S, rs, re, _, E', hw, fun d S1 ⟨n, e1, h0, h1, h2⟩ v φ1 H1 x1 rs1 rd1 => ?_, hx⟩
  subst e1
  rw [rd1.int_inv]
  have hz4 : (2000000 : Nat) ≤ sizeLine := by decide
  refine ⟨n, rfl, ⟨by decide, by decide, by omega, by omega, by omega⟩, fun q hq => ?_⟩
  exact mk_list (Q' := Q') rs1 rds_rangeV (by rw [rangeD_length]; omega) (fun d S' a v φ' H' x => hn d S' a v φ' H' (x1.trans x)) h2 q hq
end
@[simp] theorem e_lrange {ρ : DEnv} {S : Store} {Q : PQ} {E : PX} {w : W} : wLRange w ρ S Q E = w ρ S (fun d S1 => ∃ n : Int, d = .int n ∧ -1000000 ≤ n ∧ n ≤ 1000000 ∧ Q (.ref S1.length) (S1 ++ [.lst (rangeD 0 n.toNat)])) E := rfl
/-! ### places, moves, writes -/
def fullAt (ps : List Pl) (i : Nat) : Bool := match ps[i]? with
  | some (some _) => true
  | _ => false
def fullN (ps : List Pl) : List Nat := (List.range ps.length).filter (fullAt ps)
def fullL (ps : List Pl) : List Int := (fullN ps).map fun i : Nat => (i : Int)
abbrev Mv := Int × Int
abbrev mvp (mv : List Mv) : Cell := .lst (mv.map eMv.enc)
def movesF (prs : List Mv) : List Mv := (prs.filter fun x => decide (x.1 < x.2)).reverse ++ prs.filter fun x => decide (x.2 < x.1)
def plAt (ps : List Pl) (i : Nat) : Pl := ps.getD i none
def wrsOf (ps : List Pl) (mv : List Mv) : List Wr := mv.flatMap fun x => [(x.2, plAt ps x.1.toNat), (x.1, none)]
theorem comp_places {n i : Nat} {ps : List Pl} {ρ : DEnv} {S : Store} {Q : PQ} (hs : S[n]? = some (shp ps)) {sh : Nat} (hsh : ∀ x, (ρ.set i x)[sh]? = some (some (.ref n))) (hi : i < ρ.length)
    (h : Q (.ref S.length) (S ++ [.lst ((fullL ps).map .int)])) : compG (fun _ => True) (tN i) (wOp pNe (wOp pIx (wVar sh) (wVar i)) (wTup [])) (wVar i) (rangeD 0 ps.length) [] ρ S Q := by
  refine comp_range (fun i => if fullAt ps i then some (.int i) else none) (fun j hj N hN => ?_) ?_
  · have e := pl_at (ps := ps) (i := j) hj
    have e3 : fullAt ps j = ps[j].isSome := by
      unfold fullAt
      rw [List.getElem?_eq_getElem hj]
      cases ps[j] <;> rfl
    have hv : ∀ d, (ρ.set i d)[i]? = some d := fun d => by simp [hi]
    simp [hsh, hv, hs, e]
    rw [e3] at hN
    cases e2 : ps[j] with
    | none => simpa [e2] using hN
    | some u => simpa [e2] using hN
  · have e : (List.range ps.length).filterMap (fun i => if fullAt ps i = true then some (D.int i) else none) = (fullL ps).map .int := by
      unfold fullL fullN
      rw [← List.filterMap_eq_map, ← List.filterMap_eq_map, ← List.filterMap_eq_filter, List.filterMap_filterMap, List.filterMap_filterMap]
      congr 1
      funext i
      by_cases h : fullAt ps i = true <;> simp [h, Option.guard]
    rw [e]; exact h
def sp_writes_of : SPf
  | [.ref n, .ref m], S, Q, _ => ∃ ps mv, S[n]? = some (shp ps) ∧ S[m]? = some (mvp mv) ∧ (∀ x ∈ mv, 0 ≤ x.1 ∧ x.1 < ps.length) ∧ mv.length ≤ 50000 ∧ Q (.ref S.length) (S ++ [wrp (wrsOf ps mv)])
  | _, _, _, _ => False
theorem len_writes_of : ∀ ds S Q E, sp_writes_of ds S Q E → ds.length = 2 := by
  intro ds S Q E h; unfold sp_writes_of at h; split at h <;> first | rfl | exact h.elim
abbrev n_writes_of : List Str := ["shelf", "moves", "writes", "place", "aim"]
def w_writes_of : WS :=
  wsSeq (wsSet 2 (wLst [])) (wsSeq (wsFor (tT [3, 4]) (wVar 1) (wsSeq (wsExpr (wM "list" mAppend (wVar 2) [wTup [wVar 4, wOp pIx (wVar 0) (wVar 3)]])) (wsExpr (wM "list" mAppend (wVar 2) [wTup [wVar 3, wTup []]])))) (wsRet (wVar 2)))

theorem wrsOf_len (ps : List Pl) (mv : List Mv) : (wrsOf ps mv).length = 2 * mv.length := by
  induction mv with
  | nil => rfl
  | cons x mv ih => simp [wrsOf] at ih ⊢; omega
theorem wrsOf_next {ps : List Pl} {mv : List Mv} {i : Nat} (h : i < mv.length) : wrsOf ps (mv.take (i + 1)) = wrsOf ps (mv.take i) ++ [(mv[i].2, plAt ps mv[i].1.toNat), (mv[i].1, none)] := by
  unfold wrsOf
  rw [take_next h, List.flatMap_append]
  simp only [List.flatMap_cons, List.flatMap_nil, List.append_nil]
theorem plAt_at {ps : List Pl} {i : Int} (h0 : 0 ≤ i) (h1 : i < ps.length) : atI (ps.map ePl.enc) i = some (ePl.enc (plAt ps i.toNat)) := by
  rw [atI_lt h0 (by simpa using h1)]
  have : i.toNat < ps.length := by omega
  simp [plAt, List.getD, List.getElem?_eq_getElem this]
theorem ob_writes_of : Ob n_writes_of sp_writes_of w_writes_of := by
  intro ds S Q E hS hd h
  unfold sp_writes_of at h
  split at h
  · rename_i n m
    obtain ⟨ps, mv, hn, hm, hin, hl, hq⟩ := h
    have hz4 : (200000 : Nat) ≤ sizeLine := by decide
    simp [w_writes_of, startD]
    refine ⟨_, app_get hm, loop_list (S := S ++ [wrp []]) (fun i ρ S' => S' = S ++ [wrp (wrsOf ps (mv.take i))] ∧ ∃ x y, ρ = [some (.ref n), some (.ref m), some (.ref S.length), x, y]) ⟨rfl, none, none, rfl⟩ (fun i ρ S' h => by rw [h.1]; exact app_get hm) ?_ ?_⟩
    · rintro i x ρ S' N hx ⟨rfl, a, b, rfl⟩ hN
      have hi : i < mv.length := by simpa using (List.getElem?_eq_some_iff.mp hx).1
      rw [List.getElem?_map, List.getElem?_eq_getElem hi] at hx
      obtain ⟨h0, h1⟩ := hin mv[i] (List.getElem_mem _)
      have e := plAt_at (ps := ps) h0 h1
      have fin := hN _ _ ⟨rfl, some (.int mv[i].1), some (.int mv[i].2), rfl⟩
      rw [wrsOf_next hi] at fin
      have hwl := wrsOf_len ps (mv.take i)
      have hmt : (mv.take i).length = i := by simp; omega
      simp at hx
      subst hx
      simp [eMv, setAll, isT_at, app_get hn, e]
      refine ⟨by omega, by omega, ?_⟩
      simpa [wrp] using fin
    · rintro ρ S' ⟨rfl, a, b, rfl⟩
      simp
      exact ret_any hq
  · exact h.elim
/-! ### rows -/
def rowsS (acc : List Th) (t : Th) : List Th := if acc.getLast? = some t then acc else acc ++ [t]
def rowsT (ts : List Th) : List Th := ts.foldl rowsS []
theorem rowsT_snoc (ts : List Th) (t : Th) : rowsT (ts ++ [t]) = rowsS (rowsT ts) t := by simp [rowsT]
theorem rises_noEqD {ts : List Th} (h : Rises ts) : NoEq ts := fun i hi e => by
  have := rises_at h i hi
  rw [List.getElem?_eq_getElem (by omega), List.getElem?_eq_getElem hi] at e
  rw [Option.some.inj e] at this
  omega
theorem twice_noD {m r : List Th} {t : Th} (h : m.getLast? = some t) : ¬ NoEq (m ++ t :: r) := fun hno => by
  rw [List.getLast?_eq_getElem?] at h
  obtain ⟨hl, e⟩ := List.getElem?_eq_some_iff.mp h
  refine hno (m.length - 1) (by simp; omega) ?_
  rw [List.getElem?_append_left (by omega), h, List.getElem?_append_right (by omega), show m.length - 1 + 1 - m.length = 0 by omega]; rfl
theorem rises_ne {l : List Th} {t : Th} {r : List Th} (h : Rises (l ++ t :: r)) : l.getLast? ≠ some t := fun e => twice_noD e (rises_noEqD h)
theorem rowsT_go : ∀ (r l : List Th), Rises (l ++ r) → r.foldl rowsS l = l ++ r
  | [], l, _ => by simp
  | t :: r, l, h => by
    have hne := rises_ne h
    have e : rowsS l t = l ++ [t] := by unfold rowsS; rw [if_neg hne]
    rw [List.foldl_cons, e]
    have := rowsT_go r (l ++ [t]) (by simpa using h)
    simpa using this
theorem rowsT_rises {ts : List Th} (h : Rises ts) : rowsT ts = ts := by
  have := rowsT_go ts [] (by simpa using h)
  simpa [rowsT] using this
theorem rowsT_twice {l r : List Th} {t : Th} (h : Rises (l ++ t :: r)) : rowsT (l ++ t :: t :: r) = l ++ t :: r := by
  have h1 : Rises l := (List.pairwise_append.mp h).1
  have e : rowsT (l ++ t :: t :: r) = (t :: r).foldl rowsS (rowsS l t) := by
    unfold rowsT
    rw [List.foldl_append]
    have := rowsT_rises h1
    unfold rowsT at this
    rw [this]; rfl
  have e2 : rowsS l t = l ++ [t] := by unfold rowsS; rw [if_neg (rises_ne h)]
  rw [e, e2, List.foldl_cons]
  have e3 : rowsS (l ++ [t]) t = l ++ [t] := by unfold rowsS; rw [if_pos (by simp)]
  rw [e3]
  have := rowsT_go r (l ++ [t]) (by simpa using h)
  simpa using this
/-! ### texts: a global text, a text in a text, int(text) -/
section
variable {X : Cx} {WW : WX} {pos : Pos}
theorem se_gstr {x s : Str} (hg : Gl X x) (h : ∃ u, X.mg x = some u ∧ RelV (.str s) u) (hd : (x == ("__debug__" : Str)) = false := by decide) : PE X (.Name x pos) (tm X.K X.mg WW (ret (.str s))) :=
  let ⟨_, hm, r⟩ := h
  PE.conv (pe_glob hg hm r hd) (ret_c fun _ _ _ => by simp only [RD])
end
def pNotInS : D → D → W
  | .str a, .str b => ret (.bl ((Builtin.Str.occurrences b a 0 b.length 1).isEmpty))
  | _, _ => fail
def bIntS : BPf
  | [.str a] => fun _ S Q _ => ∃ n, PySem.intText? a = some n ∧ a.length ≤ 640 ∧ Q (.int n) S
  | _ => fail
section
variable {K : PySem.W.Frag} {mg : Str → Option Value} {WW : WX}
theorem pr_notInS : Pr2 K mg WW pNotInS (fun x y H Q => ∃ i j, x = .str i ∧ y = .str j ∧ Q (.bl (!(!(Builtin.Str.occurrences j i 0 j.length 1).isEmpty))) H) := by
  intro φ ρ S σ H Q d1 d2 x y r1 r2 h
  unfold pNotInS at h
  split at h
  · rw [r1.str_inv, r2.str_inv]
    refine ⟨_, _, rfl, rfl, ?_⟩
    rw [Bool.not_not]
    exact h.ret RD.bl
  · exact h.no.elim
theorem pb_intS : PrB K mg WW bIntS (fun xs H Q => ∃ a n, xs = [.str a] ∧ PySem.intText? a = some n ∧ a.length ≤ 640 ∧ Q (.int n) H) := by
  intro φ ρ S σ H Q ds vs r h
  unfold bIntS at h
  split at h
  · obtain ⟨v, rfl, q0⟩ := r.one
    rw [q0.str_inv]
    obtain ⟨rs, re, Q', E', ⟨n, h1, h2, hq⟩, hn, hx⟩ := h
    exact ⟨_, n, rfl, h1, h2, hn _ _ hq _ _ _ Ext.refl rs RD.int⟩
  · exact h.no.elim
end
/-! ### list(zip(a, b)) -/
theorem zip_no_len : typeLookup (.type "zip") "__len__" = pure none := PySem.am_miss_of_fast (by decide +kernel)
theorem zip_no_hint : typeLookup (.type "zip") "__length_hint__" = pure none := PySem.am_miss_of_fast (by decide +kernel)
/-- the zip object at its i-th turn, beside the list at S -/
structure ZSt (z TI TO i1 i2 l1 l2 S : Addr) (xs ys : Array Value) (i : Nat) (h : Heap) : Prop where
  ti : IsPair h TI (.ref i1) (.ref i2)
  t1 : h.IsListIter i1 l1 i
  t2 : h.IsListIter i2 l2 i
  a1 : h.IsList l1 xs
  a2 : h.IsList l2 ys
  zs : (IsZip h z TI TO .none ∧ ∃ a b, IsPair h TO a b) ∨ ∃ T f oT, IsZipHeld h z TI TO T f ∧ h.get? T = some oT ∧ T ≠ z ∧ T ≠ i1 ∧ T ≠ i2 ∧ T ≠ S
def zRefs (S : Addr) (i : Nat) : List Value := (List.range i).map fun j => Value.ref (S + 1 + j)
def ZAcc (S : Addr) (xs ys : Array Value) (i : Nat) (h : Heap) : Prop := (∃ c, h.get? S = some { cls := .type "list", dict := none, data := .seq (zRefs S i).toArray c, slots := #[] }) ∧
  ∀ j x y, j < i → xs[j]? = some x → ys[j]? = some y → IsPair h (S + 1 + j) x y
structure ZOff (z TI TO i1 i2 l1 l2 S : Addr) : Prop where
  z : z < S
  ti : TI < S
  to : TO < S
  i1 : i1 < S
  i2 : i2 < S
  l1 : l1 < S
  l2 : l2 < S
section
variable {prog : Program} {w : World} {A : Around} {E : Value → Shared → Prop} {s : Shared} {z TI TO i1 i2 l1 l2 S : Addr} {xs ys : Array Value} {i : Nat}
theorem zip_turn {Q : Option Value → Shared → Prop} (D : ZipApart z TI TO i1 i2 l1 l2) (O : ZOff z TI TO i1 i2 l1 l2 S) (st : ZSt z TI TO i1 i2 l1 l2 S xs ys i s.heap) (hsz : S < s.heap.objs.size) {x y : Value} (ex : xs[i]? = some x) (ey : ys[i]? = some y)
    (hQ : ∀ h', ZSt z TI TO i1 i2 l1 l2 S xs ys (i + 1) h' → h'.objs.size = s.heap.objs.size + 1 → IsPair h' s.heap.objs.size x y →
      (∀ c o, c ≠ z → c ≠ TO → c ≠ i1 → c ≠ i2 → s.heap.get? c = some o → h'.get? c = some o) → Q (some (.ref s.heap.objs.size)) { s with heap := h' }) : wpAny (model prog w) A (pyNext (.ref z)) Q E s := by
  obtain ⟨hTI, h1, h2, hl1, hl2, hz⟩ := st
  have b1 := O.z; have b2 := O.i1; have b3 := O.i2; have b4 := O.to
  have m1 : s.heap.objs.size ≠ z := Nat.ne_of_gt (Nat.lt_trans b1 hsz)
  have m2 : s.heap.objs.size ≠ i1 := Nat.ne_of_gt (Nat.lt_trans b2 hsz)
  have m3 : s.heap.objs.size ≠ i2 := Nat.ne_of_gt (Nat.lt_trans b3 hsz)
  have m4 : s.heap.objs.size ≠ S := Nat.ne_of_gt hsz
  rcases hz with ⟨hz, a, b, hTO⟩ | ⟨T, f, oT, hz, hT, r1, r2, r3, r4⟩
  · refine wpAny_pyNext_zip_item D hz hTI hTO h1 h2 hl1 hl2 ex ey fun h' a1 a2 a3 a4 a5 a6 hk => ?_
    refine hQ h' ⟨hk _ _ D.TIz D.TITO D.TIi1 D.TIi2 hTI, a3, a4, hl1.at fun o e => hk _ o D.l1z D.l1TO D.l1i1 D.l1i2 e, hl2.at fun o e => hk _ o D.l2z D.l2TO D.l2i1 D.l2i2 e, .inr ⟨s.heap.objs.size, false, _, a1, a5, m1, m2, m3, m4⟩⟩ a6 a5 hk
  · refine wpAny_pyNext_zip_item_held D hz hT hTI h1 h2 hl1 hl2 ex ey fun h' a1 a3 a4 a5 a6 hk => ?_
    refine hQ h' ⟨hk _ _ D.TIz D.TIi1 D.TIi2 hTI, a3, a4, hl1.at fun o e => hk _ o D.l1z D.l1i1 D.l1i2 e, hl2.at fun o e => hk _ o D.l2z D.l2i1 D.l2i2 e, .inr ⟨T, true, oT, a1, hk _ _ r1 r2 r3 hT, r1, r2, r3, r4⟩⟩ a6 a5 fun c o c1 _ c3 c4 e => hk c o c1 c3 c4 e
theorem zip_over {Q : Option Value → Shared → Prop} (hh : A.handled = none) (D : ZipApart z TI TO i1 i2 l1 l2) (st : ZSt z TI TO i1 i2 l1 l2 S xs ys i s.heap) (hend : xs[i]? = none ∨ ys[i]? = none)
    (hQ : ∀ h', (∀ c o, c ≠ z → c ≠ TO → c ≠ i1 → c ≠ i2 → s.heap.get? c = some o → h'.get? c = some o) → Q none { s with heap := h' }) : wpAny (model prog w) A (pyNext (.ref z)) Q E s := by
  obtain ⟨hTI, h1, h2, hl1, hl2, hz⟩ := st
  rcases hz with ⟨hz, a, b, hTO⟩ | ⟨T, f, oT, hz, hT, r1, r2, r3, r4⟩
  · exact wpAny_pyNext_zip_end hh D hz hTI hTO h1 h2 hl1 hl2 hend hQ
  · exact wpAny_pyNext_zip_end_held hh D hz hT hTI h1 h2 hl1 hl2 hend fun h' hk => hQ h' fun c o c1 _ c3 c4 e => hk c o c1 c3 c4 e
theorem ZSt.upd (D : ZipApart z TI TO i1 i2 l1 l2) (O : ZOff z TI TO i1 i2 l1 l2 S) {h h' : Heap} (st : ZSt z TI TO i1 i2 l1 l2 S xs ys i h) (k : ∀ b o, b ≠ S → h.get? b = some o → h'.get? b = some o) : ZSt z TI TO i1 i2 l1 l2 S xs ys i h' := by
  obtain ⟨hTI, h1, h2, hl1, hl2, hz⟩ := st
  have n := fun {c : Addr} (h : c < S) => Nat.ne_of_lt h
  refine ⟨k _ _ (n O.ti) hTI, h1.at fun o e => k _ o (n O.i1) e, h2.at fun o e => k _ o (n O.i2) e, hl1.at fun o e => k _ o (n O.l1) e, hl2.at fun o e => k _ o (n O.l2) e, ?_⟩
  rcases hz with ⟨hz, a, b, hTO⟩ | ⟨T, f, oT, hz, hT, r1, r2, r3, r4⟩
  · exact .inl ⟨k _ _ (n O.z) hz, a, b, k _ _ (n O.to) hTO⟩
  · exact .inr ⟨T, f, oT, k _ _ (n O.z) hz, k _ _ r4 hT, r1, r2, r3, r4⟩
theorem zRefs_push (S : Addr) (i : Nat) : (zRefs S i).toArray.push (.ref (S + 1 + i)) = (zRefs S (i + 1)).toArray := by
  unfold zRefs
  rw [List.push_toArray, List.range_succ, List.map_append]; rfl
theorem zip_extend {R : Result → Shared → Prop} (hh : A.in1.handled = none) (D : ZipApart z TI TO i1 i2 l1 l2) (O : ZOff z TI TO i1 i2 l1 l2 S) (hn : min xs.size ys.size ≤ sizeLine) (res : Value) :
    ∀ (k i : Nat) (s : Shared), min xs.size ys.size - i = k → i ≤ min xs.size ys.size → ZSt z TI TO i1 i2 l1 l2 S xs ys i s.heap → ZAcc S xs ys i s.heap → s.heap.objs.size = S + 1 + i →
    (∀ h', ZAcc S xs ys (min xs.size ys.size) h' → (∀ c o, c ≠ z → c ≠ TO → c ≠ i1 → c ≠ i2 → c ≠ S → s.heap.get? c = some o → h'.get? c = some o) → R (.ok (.ret res)) { s with heap := h' }) →
    codeAny (model prog w) A (.builtin "list.extend.loop" ⟨[.ref S, .ref z, res], []⟩) R s := by
  have b1 := O.z; have b2 := O.i1; have b3 := O.i2; have b4 := O.to
  have far : ∀ j, S ≤ j → j ≠ z ∧ j ≠ TO ∧ j ≠ i1 ∧ j ≠ i2 := fun j h => ⟨Nat.ne_of_gt (Nat.lt_of_lt_of_le b1 h), Nat.ne_of_gt (Nat.lt_of_lt_of_le b4 h), Nat.ne_of_gt (Nat.lt_of_lt_of_le b2 h), Nat.ne_of_gt (Nat.lt_of_lt_of_le b3 h)⟩
  intro k
  induction k with
  | zero =>
    intro i s hk hi st acc hs hR
    have hin : i = min xs.size ys.size := by omega
    refine codeAny_builtin F.entry_extend_loop ?_
    rw [Around.under_plainId F.plain_extend_loop _]
    show wpAny _ A.in1 (pyNext (.ref z) >>= _) _ _ s
    have hend : xs[i]? = none ∨ ys[i]? = none := by
      rcases Nat.le_total xs.size ys.size with h | h
      · exact .inl (Array.getElem?_eq_none (by rw [hin, Nat.min_eq_left h]; exact Nat.le_refl _))
      · exact .inr (Array.getElem?_eq_none (by rw [hin, Nat.min_eq_right h]; exact Nat.le_refl _))
    refine wpAny_bind (zip_over hh D st hend fun h' hk => ?_)
    refine wpAny_pure ?_
    obtain ⟨⟨c, e⟩, hp⟩ := acc
    obtain ⟨f1, f2, f3, f4⟩ := far S (Nat.le_refl _)
    refine hR h' ⟨⟨c, by rw [← hin]; exact hk S _ f1 f2 f3 f4 e⟩, fun j x y hj ex ey => ?_⟩ fun c o c1 c2 c3 c4 _ e => hk c o c1 c2 c3 c4 e
    obtain ⟨f1, f2, f3, f4⟩ := far (S + 1 + j) (Nat.le_trans (Nat.le_succ S) (Nat.le_add_right _ _))
    exact hk _ _ f1 f2 f3 f4 (hp j x y (by omega) ex ey)
  | succ k ih =>
    intro i s hk hi st acc hs hR
    have hlt : i < min xs.size ys.size := by omega
    have ex := Array.getElem?_eq_getElem (xs := xs) (i := i) (Nat.lt_of_lt_of_le hlt (Nat.min_le_left ..))
    have ey := Array.getElem?_eq_getElem (xs := ys) (i := i) (Nat.lt_of_lt_of_le hlt (Nat.min_le_right ..))
    refine codeAny_builtin F.entry_extend_loop ?_
    rw [Around.under_plainId F.plain_extend_loop _]
    show wpAny _ A.in1 (pyNext (.ref z) >>= _) _ _ s
    refine wpAny_bind (zip_turn D O st (by rw [hs]; exact Nat.lt_of_lt_of_le (Nat.lt_succ_self S) (Nat.le_add_right _ _)) ex ey fun h' st' hs' hpair hk' => ?_)
    obtain ⟨⟨c, e⟩, hp⟩ := acc
    obtain ⟨f1, f2, f3, f4⟩ := far S (Nat.le_refl _)
    have hS' := hk' S _ f1 f2 f3 f4 e
    show wpAny _ A.in1 (updateSeq S (·.push (Value.ref s.heap.objs.size)) >>= _) _ _ _
    refine wpAny_bind ?_
    have hl : (zRefs S i).length = i := by unfold zRefs; simp
    refine wpAny_updateSeq hS' rfl (wpAny_pure ⟨plainId_quiet F.plain_extend_loop _, ih (i + 1) _ (by omega) hlt ?_ ?_ ?_ fun h'' acc'' hk'' => ?_⟩)
      (by rw [List.size_toArray, hl]; omega) (by show ((zRefs S i).toArray.push _).size ≤ sizeLine + 1; rw [Array.size_push, List.size_toArray, hl]; omega)
    · exact st'.upd D O fun b o hb q => (Heap.get?_update_other _ _ (Ne.symm hb)).trans q
    · refine ⟨?_, fun j x y hj ex' ey' => ?_⟩
      · have := Heap.get?_update_self (Obj.mapSeq (·.push (Value.ref s.heap.objs.size))) hS' rfl
        rw [← zRefs_push, ← hs]
        exact ⟨_, this⟩
      · refine (Heap.get?_update_other _ _ (Nat.ne_of_lt (Nat.lt_of_lt_of_le (Nat.lt_succ_self S) (Nat.le_add_right _ _)))).trans ?_
        by_cases hj2 : j < i
        · obtain ⟨f1, f2, f3, f4⟩ := far (S + 1 + j) (Nat.le_trans (Nat.le_succ S) (Nat.le_add_right _ _))
          exact hk' _ _ f1 f2 f3 f4 (hp j x y hj2 ex' ey')
        · have : j = i := by omega
          subst this
          rw [ex] at ex'; rw [ey] at ey'
          cases ex'; cases ey'
          rw [← hs]; exact hpair
    · show (h'.update S _).objs.size = _
      rw [(Heap.SameBut.update h' S _).1, hs', hs]; omega
    · exact hR h'' acc'' fun c o c1 c2 c3 c4 c5 q => hk'' c o c1 c2 c3 c4 c5 ((Heap.get?_update_other _ _ (Ne.symm c5)).trans (hk' c o c1 c2 c3 c4 q))
theorem zip_extendWith {R : Result → Shared → Prop} (hh : A.in1.handled = none) (D : ZipApart z TI TO i1 i2 l1 l2) (O : ZOff z TI TO i1 i2 l1 l2 S) (hn : min xs.size ys.size ≤ sizeLine) (res : Value)
    (hz : IsZip s.heap z TI TO .none) (st : ZSt z TI TO i1 i2 l1 l2 S xs ys 0 s.heap) {c₀ : Nat} (hS : s.heap.get? S = some { cls := .type "list", dict := none, data := .seq #[] c₀, slots := #[] }) (hs : s.heap.objs.size = S + 1)
    (hR : ∀ h', ZAcc S xs ys (min xs.size ys.size) h' → (∀ c o, c ≠ z → c ≠ TO → c ≠ i1 → c ≠ i2 → c ≠ S → s.heap.get? c = some o → h'.get? c = some o) → R (.ok (.ret res)) { s with heap := h' }) :
    wpAny (model prog w) A.in1 (Builtin.List.listExtendWith (.ref S) (.ref z) res)
      (fun fin s' => match fin with | .done f => R (.ok f) s' | .again c' => c'.quiet = true ∧ codeAny (model prog w) A c' R s') (fun e s' => R (.error e) s') s := by
  have hT : s.TypeIs (.ref z) "zip" := ⟨_, hz, rfl⟩
  have hSz : S ≠ z := Nat.ne_of_gt O.z
  unfold Builtin.List.listExtendWith
  refine wpAny_bind (wpAny_typeOf hT ?_)
  have h1 : Builtin.List.listSameRef (.ref S) (.ref z) = false := by simp [Builtin.List.listSameRef, hSz]
  have h2 : (Value.type "zip" == Value.type "list") = false := by decide
  have h3 : (Value.type "zip" == Value.type "tuple") = false := by decide
  simp only [h1, h2, h3, Bool.or_false, Bool.false_eq_true, if_false]
  refine wpAny_bind (wpAny_pyIter_zip hz ?_)
  refine wpAny_bind (wpAny_holding ?_)
  unfold Builtin.List.listLengthHint
  refine wpAny_bind (wpAny_specialOf hT zip_no_len ?_)
  show wpAny _ A.in1 (specialOf (Value.ref z) (Str.ofString "__length_hint__") >>= _) _ _ _
  refine wpAny_bind (wpAny_specialOf hT zip_no_hint ?_)
  refine wpAny_pure ?_
  show wpAny _ A.in1 (rule "list.extend.makes-room" >>= fun _ => Builtin.List.listTouch (.ref S) >>= fun _ =>
    again (.builtin "list.extend.loop" ⟨[.ref S, .ref z, res], []⟩)) _ _ _
  refine wpAny_bind (wpAny_rule ?_)
  refine wpAny_bind ?_
  show wpAny _ A.in1 (updateSeq S (·.push .none) >>= fun _ => updateSeq S (·.pop)) _ _ _
  refine wpAny_bind (wpAny_updateSeq hS rfl ?_)
  have hS₂ := Heap.get?_update_self (Obj.mapSeq (·.push Value.none)) hS rfl
  refine wpAny_updateSeq (hz := by seq_fits) hS₂ rfl ?_
  have hS₃ := Heap.get?_update_self (Obj.mapSeq (·.pop)) hS₂ rfl
  have oth : ∀ b o, b ≠ S → s.heap.get? b = some o → ((s.heap.update S (Obj.mapSeq (·.push Value.none))).update S (Obj.mapSeq (·.pop))).get? b = some o :=
    fun b o hb e => (Heap.get?_update_other _ _ (Ne.symm hb)).trans ((Heap.get?_update_other _ _ (Ne.symm hb)).trans e)
  refine wpAny_pure ⟨plainId_quiet F.plain_extend_loop _, zip_extend hh D O hn res _ 0 _ rfl (Nat.zero_le _) (st.upd D O oth) ⟨⟨_, hS₃⟩, fun j x y hj => absurd hj (Nat.not_lt_zero _)⟩ ?_ fun h' acc hk => ?_⟩
  · show ((s.heap.update S _).update S _).objs.size = _
    rw [(Heap.SameBut.update _ S _).1, (Heap.SameBut.update _ S _).1, hs]
  · exact hR h' acc fun c o c1 c2 c3 c4 c5 q => hk c o c1 c2 c3 c4 c5 (oth c o c5 q)
theorem zip_init {R : Result → Shared → Prop} (hh : A.in1.handled = none) (D : ZipApart z TI TO i1 i2 l1 l2) (O : ZOff z TI TO i1 i2 l1 l2 S) (hn : min xs.size ys.size ≤ sizeLine)
    (hz : IsZip s.heap z TI TO .none) (st : ZSt z TI TO i1 i2 l1 l2 S xs ys 0 s.heap) (hS : s.heap.get? S = some { cls := .type "list", data := .seq #[] }) (hs : s.heap.objs.size = S + 1)
    (hR : ∀ h', ZAcc S xs ys (min xs.size ys.size) h' → (∀ c o, c ≠ z → c ≠ TO → c ≠ i1 → c ≠ i2 → c ≠ S → s.heap.get? c = some o → h'.get? c = some o) → R (.ok (.ret .none)) { s with heap := h' }) :
    wpAny (model prog w) A.in1 (Builtin.«list.__init__» ⟨[.ref S, .ref z], []⟩)
      (fun fin s' => match fin with | .done f => R (.ok f) s' | .again c' => c'.quiet = true ∧ codeAny (model prog w) A c' R s') (fun e s' => R (.error e) s') s := by
  show wpAny _ _ (do let old ← Builtin.List.listItems (.ref S); Builtin.List.listUpdate (.ref S) (fun _ => #[]); letGo old.toList.reverse; Builtin.List.listExtendWith (.ref S) (.ref z) .none) _ _ s
  refine wpAny_bind ?_
  unfold Builtin.List.listItems
  refine wpAny_bind (wpAny_seqItems hS rfl (wpAny_pure ?_))
  show wpAny _ _ (updateSeq S (fun _ => #[]) >>= fun _ => letGo (#[] : Array Value).toList.reverse >>= fun _ => Builtin.List.listExtendWith (.ref S) (.ref z) .none) _ _ s
  refine wpAny_bind (wpAny_updateSeq hS rfl ?_)
  have hS₂ := Heap.get?_update_self (Obj.mapSeq (fun _ => (#[] : Array Value))) hS rfl
  have oth : ∀ b o, b ≠ S → s.heap.get? b = some o → (s.heap.update S (Obj.mapSeq (fun _ => (#[] : Array Value)))).get? b = some o :=
    fun b o hb e => (Heap.get?_update_other _ _ (Ne.symm hb)).trans e
  refine wpAny_bind (wpAny_letGo ?_)
  refine zip_extendWith hh D O hn .none (oth _ _ (Nat.ne_of_lt O.z) hz) (st.upd D O oth) hS₂ ?_ fun h' acc hk => hR h' acc fun c o c1 c2 c3 c4 c5 q => hk c o c1 c2 c3 c4 c5 (oth c o c5 q)
  show (s.heap.update S _).objs.size = _
  rw [(Heap.SameBut.update _ S _).1, hs]
end
section
variable {prog : Program} {w : World} {A : Around} {E : Value → Shared → Prop} {s : Shared} {z TI TO i1 i2 l1 l2 : Addr} {xs ys : Array Value}
theorem call_list_zip {Q : Value → Shared → Prop} (hh : A.handled = none) (D : ZipApart z TI TO i1 i2 l1 l2) (O : ZOff z TI TO i1 i2 l1 l2 s.heap.objs.size) (hn : min xs.size ys.size ≤ sizeLine)
    (hz : IsZip s.heap z TI TO .none) (hTI : IsPair s.heap TI (.ref i1) (.ref i2)) (hTO : ∃ a b, IsPair s.heap TO a b) (h1 : s.heap.IsListIter i1 l1 0) (h2 : s.heap.IsListIter i2 l2 0) (hl1 : s.heap.IsList l1 xs) (hl2 : s.heap.IsList l2 ys)
    (hQ : ∀ h', ZAcc s.heap.objs.size xs ys (min xs.size ys.size) h' → (∀ c o, c ≠ z → c ≠ TO → c ≠ i1 → c ≠ i2 → s.heap.get? c = some o → h'.get? c = some o) → Q (.ref s.heap.objs.size) { s with heap := h' }) :
    wpAny (model prog w) A (call (.type "list") [.ref z]) Q E s := by
  refine callType_codes (Q₁ := fun obj s₁ => obj = .ref s.heap.objs.size ∧ s₁ = { s with heap := s.heap.push { cls := .type "list", data := .seq #[] } }) F.called_list (F.typeCall_list_1 _) F.entry_list_init
    (code_list_new _ ⟨rfl, rfl⟩) fun obj s₁ h₁ => ?_
  obtain ⟨rfl, rfl⟩ := h₁
  have hS : (s.heap.push { cls := .type "list", data := .seq #[] }).get? s.heap.objs.size = some { cls := .type "list", data := .seq #[] } := Heap.get?_push_size _ rfl
  have up : ∀ b o, s.heap.get? b = some o → (s.heap.push { cls := .type "list", data := .seq #[] }).get? b = some o := fun b o q => Heap.get?_push_of_some _ q
  obtain ⟨a, b, hTO⟩ := hTO
  refine ⟨⟨_, hS, rfl⟩, F.args_list_init_2 _ _, zip_init (A := A.in1) (s := { s with heap := s.heap.push { cls := .type "list", data := .seq #[] } }) hh D O hn (up _ _ hz)
    ⟨up _ _ hTI, h1.at fun o e => up _ o e, h2.at fun o e => up _ o e, hl1.at fun o e => up _ o e, hl2.at fun o e => up _ o e, .inl ⟨up _ _ hz, a, b, up _ _ hTO⟩⟩ hS (Heap.size_push ..) fun h' acc hk => ?_⟩
  exact ⟨rfl, hQ h' acc fun c o c1 c2 c3 c4 e => hk c o c1 c2 c3 c4 (Nat.ne_of_lt (Heap.lt_size e)) (up _ _ e)⟩
end
def zipT (H : Hp) (S : Addr) (pr : List (V × V)) : Hp := fun c => if S < c then (match pr[c - S - 1]? with
  | some p => some (.tup [p.1, p.2])
  | none => H c) else H c
def zipR (S : Addr) (n : Nat) : List V := (List.range n).map fun j => V.ref (S + 1 + j)
theorem zipT_lo {H : Hp} {S c : Addr} {pr : List (V × V)} (h : c ≤ S) : zipT H S pr c = H c := by
  unfold zipT; rw [if_neg (Nat.not_lt_of_le h)]
theorem zipT_at {H : Hp} {S : Addr} {pr : List (V × V)} {j : Nat} {p : V × V} (h : pr[j]? = some p) : zipT H S pr (S + 1 + j) = some (.tup [p.1, p.2]) := by
  unfold zipT
  have e : S + 1 + j - S - 1 = j := by
    have : ∀ a b : Nat, a + 1 + b - a - 1 = b := fun a b => by omega
    exact this S j
  rw [if_pos (Nat.lt_of_lt_of_le (Nat.lt_succ_self S) (Nat.le_add_right _ _)), e, h]
def tLZ (K : PySem.W.Frag) (ta : TA) : TE := fun σ H Q => ta σ H fun vs H1 => ∃ a b xs ys, vs = [.ref a, .ref b] ∧ SqL K H1 a xs ∧ SqL K H1 b ys ∧
  ∀ S, (∀ c, S ≤ c → H1 c = none) → Q (.ref S) (upd (zipT H1 S (xs.zip ys)) S (.lst (zipR S (xs.zip ys).length)))
theorem vals_zip (S : Addr) : ∀ (n : Nat), Vals (zipR S n) (zRefs S n) := by
  intro n
  unfold zipR zRefs
  refine vals_of_at (by simp) fun j x u h1 h2 => ?_
  rw [List.getElem?_map] at h1 h2
  cases e : (List.range n)[j]? with
  | none => rw [e] at h1; simp at h1
  | some k =>
    rw [e] at h1 h2
    simp at h1 h2
    subst h1; subst h2; rfl
theorem inv_zip {X : Cx} {pins : List (Addr × Obj)} {σ : L2.St} {H : Hp} {s : Shared} {h' : Heap} {S : Addr} {xs ys : List V} {us vs : List Value} (I : Inv X pins σ H s) (hs : s.heap.objs.size ≤ S)
    (k : ∀ b o, s.heap.get? b = some o → h'.get? b = some o) (r1 : Vals xs us) (r2 : Vals ys vs) (hz : xs.length ≤ sizeLine) (acc : ZAcc S us.toArray vs.toArray (min us.toArray.size vs.toArray.size) h') :
    Inv X pins σ (upd (zipT H S (xs.zip ys)) S (.lst (zipR S (xs.zip ys).length))) { s with heap := h' } := by
  have lo : ∀ b, b < s.heap.objs.size → upd (zipT H S (xs.zip ys)) S (.lst (zipR S (xs.zip ys).length)) b = H b := fun b hb => by
    rw [upd_ne (Nat.ne_of_lt (Nat.lt_of_lt_of_le hb hs)), zipT_lo (Nat.le_of_lt (Nat.lt_of_lt_of_le hb hs))]
  have l1 := r1.length
  have l2 := r2.length
  have hn : min us.toArray.size vs.toArray.size = (xs.zip ys).length := by simp; omega
  rw [hn] at acc
  obtain ⟨⟨c, eS⟩, hp⟩ := acc
  refine I.un (t' := s.toks) ⟨fun b o q _ _ _ => k b o q, fun b o q _ _ _ => ⟨o.slots, k b o q⟩, fun b o q n _ => by rw [lo b (Heap.lt_size q)]; exact n, fun b o q _ => ⟨o, k b o q⟩,
    fun b x q => by rw [lo b (I.hok.lt q)]; exact q, fun b o u q => by rw [lo b (I.hok.lt q)]; exact q, fun b ps q => ⟨#[], by rw [lo b (I.hok.lt q), q]; simp⟩⟩ fun b o q => ?_
  by_cases hb : b = S
  · subst hb
    rw [upd_same] at q; cases q
    refine ⟨?_, zRefs b (xs.zip ys).length, c, vals_zip b _, eS⟩
    unfold zipR
    simp; omega
  · rw [upd_ne hb] at q
    by_cases hl : b < s.heap.objs.size
    · rw [zipT_lo (Nat.le_of_lt (Nat.lt_of_lt_of_le hl hs))] at q
      refine (I.hok b o q).stay (fun b u _ e => k b u e) (fun b e => ?_) (fun b x e => ?_)
      · rw [lo b (I.hok.lt e)]; exact e
      · rw [lo b (I.hok.lt e)]; exact e
    · unfold zipT at q
      have hn : H b = none := I.hok.fresh (Nat.le_of_not_lt hl)
      split at q
      · rename_i hSb
        split at q
        · rename_i p hpz
          cases q
          have e2 : S + 1 + (b - S - 1) = b := by
            have : ∀ a d : Nat, a < d → a + 1 + (d - a - 1) = d := fun a d h => by omega
            exact this S b hSb
          obtain ⟨x, y⟩ := p
          rw [List.getElem?_zip_eq_some] at hpz
          obtain ⟨u, hu, ru⟩ := r1.get hpz.1
          obtain ⟨v, hv, rv⟩ := r2.get hpz.2
          have hjl : b - S - 1 < (xs.zip ys).length := by
            have a1 := (List.getElem?_eq_some_iff.mp hpz.1).1
            have a2 := (List.getElem?_eq_some_iff.mp hpz.2).1
            rw [List.length_zip]; exact Nat.lt_min.mpr ⟨a1, a2⟩
          have := hp (b - S - 1) u v hjl (by simpa using hu) (by simpa using hv)
          rw [e2] at this
          exact ⟨by show 2 ≤ sizeLine; decide, [u, v], .cons ru (.cons rv .nil), ⟨_, this, rfl, _, rfl⟩⟩
        · rw [hn] at q; cases q
      · rw [hn] at q; cases q
section
variable {X : Cx} {e e2 : Expr} {ta : TA}
theorem pe_listZip {p pos p2 pos2 : Pos} (hc : X.calm = true) (hg : Gl X "list") (hm : X.mg "list" = none) (hgz : Gl X "zip") (hmz : X.mg "zip" = none) (ha : PA X [e, e2] ta)
    (hs : starEach [e, e2] X.env = (false, eval e X.env) :: starEach [e2] X.env := by rfl) (hpl : (backTo pos2 (starEach [e2] X.env)).any (·.1) = false := by rfl)
    (na : starEach [.Call (.Name "zip" p2) [e, e2] [] pos2] X.env = (false, eval (.Call (.Name "zip" p2) [e, e2] [] pos2) X.env) :: starEach [] X.env := by rfl) :
    PE X (.Call (.Name "list" p) [.Call (.Name "zip" p2) [e, e2] [] pos2] [] pos) (tLZ X.K ta) := by
  refine ⟨fun pins s σ H Q I h => ?_⟩
  refine Call_ (ld_blt I hg hm boot_list (PyProof.Rows.callWith_type1 (args_cons (Call_ (ld_blt I hgz hmz PyProof.Rows.boot_zip (PyProof.Rows.callWith_type1 (thn (ha.run pos2 pins s σ H _ I h) fun us s1 ⟨vs, H1, I1, r1, q1⟩ => ?_) hs hpl))) na) na))
  obtain ⟨a, b, xs, ys, ex, hqx, hqy, q⟩ := q1
  subst ex
  cases r1 with
  | cons r rr =>
    cases rr with
    | cons r' rr =>
      cases rr
      cases r
      cases r'
      obtain ⟨its, rv, p1, hlx⟩ := I1.list hqx
      obtain ⟨its2, rv2, p2, _⟩ := I1.list hqy
      have la : a < s1.heap.objs.size := p1.lt
      have lb : b < s1.heap.objs.size := p2.lt
      refine call_zip_2 p1.isList p2.isList fun h' hz hTI hTO h1 h2 hsz hk => args_nil ?_
      have D := PySem.W.ktu_apart s1.heap.objs.size a b la lb
      have m1 : min its.toArray.size its2.toArray.size ≤ sizeLine := by
        have := rv.length
        refine Nat.le_trans (Nat.min_le_left ..) ?_
        simp; omega
      have hS : s1.heap.objs.size ≤ h'.objs.size := by rw [hsz]; exact Nat.le_add_right _ _
      refine call_list_zip (s := { s1 with heap := h' }) (I1.ok.hd hc) D ?_ m1 hz hTI ⟨_, _, hTO⟩ h1 h2 (p1.isList.at fun o e => hk _ o e) (p2.isList.at fun o e => hk _ o e) fun h2 acc hk2 => ?_
      · have o5 : ∀ n k : Nat, k < 5 → n + k < n + 5 := fun n k h => by omega
        have ol : ∀ c n : Nat, c < n → c < n + 5 := fun n k h => by omega
        constructor <;> (show _ < h'.objs.size; rw [hsz])
        · exact o5 _ 4 (by decide)
        · exact o5 _ 2 (by decide)
        · exact o5 _ 3 (by decide)
        · exact o5 _ 0 (by decide)
        · exact o5 _ 1 (by decide)
        · exact ol _ _ la
        · exact ol _ _ lb
      · have k : ∀ c o, s1.heap.get? c = some o → h2.get? c = some o := fun c o e => by
          have hl := Heap.lt_size e
          have on : ∀ c n k : Nat, c < n → c ≠ n + k := fun c n k h => by omega
          exact hk2 c o (on _ _ 4 hl) (on _ _ 3 hl) (on _ _ 0 hl) (on _ _ 1 hl) (hk _ _ e)
        have J := inv_zip (S := h'.objs.size) I1 hS k rv rv2 hlx acc
        exact ⟨V.ref h'.objs.size, _, J, rfl, q h'.objs.size fun c hcS => I1.hok.fresh (Nat.le_trans hS hcS)⟩
end
/-! over the store -/
def zipD (xs ys : List D) : List D := (xs.zip ys).map fun p => .tup [p.1, p.2]
def wZL (a b : W) : W := fun ρ S Q E => evWs [a, b] ρ S (fun ds S1 => ∃ m n xs ys, ds = [.ref m, .ref n] ∧ S1[m]? = some (.lst xs) ∧ S1[n]? = some (.lst ys) ∧ Q (.ref S1.length) (S1 ++ [.lst (zipD xs ys)])) E
theorem rd_zip {K : PySem.W.Frag} {φ : List Addr} {H : Hp} {S : Addr} : ∀ (n : Nat) (xs ys : List D) (us vs : List V), RDs K φ H xs us → RDs K φ H ys vs → (∀ j p, (us.zip vs)[j]? = some p → H (S + 1 + (n + j)) = some (.tup [p.1, p.2])) →
    RDs K φ H (zipD xs ys) ((List.range (us.zip vs).length).map fun j => V.ref (S + 1 + (n + j)))
  | n, [], ys, us, vs, h1, h2, h => by
    have : us = [] := by simpa [RDs] using h1
    subst this
    simpa [zipD] using RDs.nil
  | n, x :: xs, [], us, vs, h1, h2, h => by
    have : vs = [] := by simpa [RDs] using h2
    subst this
    simpa [zipD] using RDs.nil
  | n, x :: xs, y :: ys, us, vs, h1, h2, h => by
    obtain ⟨u, ur, rfl, r1, t1⟩ := h1.inv
    obtain ⟨v, vr, rfl, r2, t2⟩ := h2.inv
    have e0 := h 0 (u, v) rfl
    have ih := rd_zip (S := S) (n + 1) xs ys ur vr t1 t2 fun j p e => by
      have := h (j + 1) p (by simpa using e)
      rw [show n + (j + 1) = n + 1 + j from by omega] at this
      exact this
    have e1 : (List.range ((u :: ur).zip (v :: vr)).length).map (fun j => V.ref (S + 1 + (n + j))) = V.ref (S + 1 + n) :: (List.range (ur.zip vr).length).map fun j => V.ref (S + 1 + (n + 1 + j)) := by
      rw [show ((u :: ur).zip (v :: vr)).length = (ur.zip vr).length + 1 from by simp, List.range_succ_eq_map, List.map_cons, List.map_map]
      congr 1
      refine List.map_congr_left fun j _ => ?_
      show V.ref (S + 1 + (n + (j + 1))) = _
      rw [show n + (j + 1) = n + 1 + j from by omega]
    rw [e1]
    refine RDs.cons ?_ ih
    simp only [RD]
    exact ⟨_, _, rfl, e0, RDs.cons r1 (RDs.cons r2 RDs.nil)⟩
theorem zip_go {X : Cx} {WW : WX} {wa wb : W} (σ : L2.St) (H : Hp) (Q : VK) (q : tm X.K X.mg WW (wZL wa wb) σ H Q) : tLZ X.K (tma X.K X.mg WW [wa, wb]) σ H Q := by
  obtain ⟨φ, ρ, S, rs, re, Q', E', hw, hn, hx⟩ := q
  refine ⟨φ, ρ, S, rs, re, _, E', hw, fun ds S1 h1 vs φ1 H1 x1 rs1 rd1 => ?_, hx⟩
  obtain ⟨m, n, xs, ys, e, hm, hn', hq⟩ := h1
  subst e
  obtain ⟨v, w, rfl, q1, q2⟩ := rd1.two
  obtain ⟨a1, v1, rfl, ha1, e1, d1, z1⟩ := rs1.lst hm q1
  obtain ⟨a2, v2, rfl, ha2, e2, d2, z2⟩ := rs1.lst hn' q2
  refine ⟨a1, a2, v1, v2, rfl, SqL.of e1, SqL.of e2, fun P hP => ?_⟩
  have lo : ∀ c o, H1 c = some o → c < P := fun c o e => by
    rcases Nat.lt_or_ge c P with h | h
    · exact h
    · rw [hP c h] at e; cases e
  have kp : ∀ c o, H1 c = some o → zipT H1 P (v1.zip v2) c = some o := fun c o e => by rw [zipT_lo (Nat.le_of_lt (lo c o e))]; exact e
  have xT : Ext φ1 H1 φ1 (zipT H1 P (v1.zip v2)) := ⟨⟨[], by simp⟩, fun b o e _ => kp b o e, fun b o e _ => kp b o e, fun b hb => .inl hb⟩
  have rsT : RS X.K X.mg φ1 S1 (zipT H1 P (v1.zip v2)) := by
    refine ⟨rs1.len, rs1.nd, fun n c a e1 e2 => (rs1.cell n c a e1 e2).mono xT ?_⟩
    have hm := rs1.mut (List.mem_of_getElem? e2)
    cases eo : H1 a with
    | none => rw [eo] at hm; exact hm.elim
    | some o => exact kp a o eo
  have hPn : zipT H1 P (v1.zip v2) P = none := by rw [zipT_lo (Nat.le_refl _)]; exact hP P (Nat.le_refl _)
  have rz : RDs X.K φ1 (zipT H1 P (v1.zip v2)) (zipD xs ys) (zipR P (v1.zip v2).length) := by
    have := rd_zip (S := P) 0 xs ys v1 v2 (d1.mono xT) (d2.mono xT) fun j p e => by rw [Nat.zero_add]; exact zipT_at e
    simpa [zipR] using this
  refine mk_list rsT rz ?_ (fun d S' a v φ' H' x => hn d S' a v φ' H' (x1.trans (xT.trans x))) hq P hPn
  have : (zipD xs ys).length ≤ xs.length := by unfold zipD; rw [List.length_map, List.length_zip]; exact Nat.min_le_left ..
  omega
section
variable {X : Cx} {WW : WX} {e e2 : Expr} {wa wb : W}
theorem se_listZip {p pos p2 pos2 : Pos} (hc : X.calm = true) (hg : Gl X "list") (hm : X.mg "list" = none) (hgz : Gl X "zip") (hmz : X.mg "zip" = none) (ha : PE X e (tm X.K X.mg WW wa)) (hb : PE X e2 (tm X.K X.mg WW wb))
    (hs : starEach [e, e2] X.env = (false, eval e X.env) :: starEach [e2] X.env := by rfl) (hs2 : starEach [e2] X.env = (false, eval e2 X.env) :: starEach [] X.env := by rfl) (hpl : (backTo pos2 (starEach [e2] X.env)).any (·.1) = false := by rfl)
    (na : starEach [.Call (.Name "zip" p2) [e, e2] [] pos2] X.env = (false, eval (.Call (.Name "zip" p2) [e, e2] [] pos2) X.env) :: starEach [] X.env := by rfl) :
    PE X (.Call (.Name "list" p) [.Call (.Name "zip" p2) [e, e2] [] pos2] [] pos) (tm X.K X.mg WW (wZL wa wb)) :=
  PE.conv (pe_listZip hc hg hm hgz hmz (sa_cons ha (sa_cons hb sa_nil hs2) hs) hs hpl na) zip_go
end
@[simp] theorem e_ZL {ρ : DEnv} {S : Store} {Q : PQ} {E : PX} {a b : W} : wZL a b ρ S Q E = evWs [a, b] ρ S (fun ds S1 => ∃ m n xs ys, ds = [.ref m, .ref n] ∧ S1[m]? = some (.lst xs) ∧ S1[n]? = some (.lst ys) ∧ Q (.ref S1.length) (S1 ++ [.lst (zipD xs ys)])) E := rfl
/-! ### dicts with ints and texts as keys -/
def keyD : D → Option Key
  | .int i => some (.inl i)
  | .str x => some (.inr x)
  | _ => none
def dkV : Key → D
  | .inl i => .int i
  | .inr x => .str x
def valD (kvs : List (Key × D)) (k : Key) : Option D := (kvs.find? fun kv => decide (kv.1 = k)).map (·.2)
def putD (kvs : List (Key × D)) (k : Key) (v : D) : List (Key × D) := if (kvs.any fun kv => decide (kv.1 = k)) = true then kvs.map (fun kv => if kv.1 = k then (kv.1, v) else kv) else kvs ++ [(k, v)]
def dropD (kvs : List (Key × D)) (k : Key) : List (Key × D) := kvs.filter fun kv => decide (kv.1 ≠ k)
section
variable {K : PySem.W.Frag} {mg : Str → Option Value} {WW : WX} {φ : List Addr} {ρ : DEnv} {S : Store} {σ : L2.St} {H : Hp} {Q : VK}
theorem RKs.nil' {κ : Type} : RKs K φ H ([] : List (κ × D)) [] := ⟨rfl, RDs.nil⟩
theorem RKs.inv {κ : Type} {k : κ} {d : D} {r : List (κ × D)} {vs : List (κ × V)} (h : RKs K φ H ((k, d) :: r) vs) : ∃ v t, vs = (k, v) :: t ∧ RD K φ H d v ∧ RKs K φ H r t := by
  obtain ⟨h1, h2⟩ := h
  cases vs with
  | nil => simp at h1
  | cons p t =>
    obtain ⟨v, q, e, a, b⟩ := RDs.inv (by simpa using h2)
    simp at h1 e
    obtain ⟨k', v'⟩ := p
    simp at h1 e
    obtain ⟨rfl, h1⟩ := h1
    obtain ⟨rfl, rfl⟩ := e
    exact ⟨v', t, rfl, a, h1, b⟩
theorem RKs.cons {κ : Type} {k : κ} {d : D} {v : V} {r : List (κ × D)} {t : List (κ × V)} (h : RD K φ H d v) (q : RKs K φ H r t) : RKs K φ H ((k, d) :: r) ((k, v) :: t) := ⟨by simp [q.1], by simpa using RDs.cons h q.2⟩
theorem RKs.nil_inv {κ : Type} {vs : List (κ × V)} (h : RKs K φ H ([] : List (κ × D)) vs) : vs = [] := by
  have := h.1
  cases vs with
  | nil => rfl
  | cons p t => simp at this
theorem RKs.val {k : Key} : ∀ {ks : List (Key × D)} {vs : List (Key × V)}, RKs K φ H ks vs → (valD ks k = none ∧ valV vs k = none) ∨ ∃ d v, valD ks k = some d ∧ valV vs k = some v ∧ RD K φ H d v
  | [], vs, h => by rw [h.nil_inv]; exact .inl ⟨rfl, rfl⟩
  | (k', d) :: r, vs, h => by
    obtain ⟨v, t, rfl, rd, h⟩ := h.inv
    by_cases e : k' = k
    · exact .inr ⟨d, v, by simp [valD, List.find?_cons, e], by simp [valV, List.find?_cons, e], rd⟩
    · have := RKs.val (k := k) h
      simpa [valD, valV, List.find?_cons, e] using this
theorem RKs.any {k : Key} {ks : List (Key × D)} {vs : List (Key × V)} (h : RKs K φ H ks vs) : (ks.any fun kv => decide (kv.1 = k)) = vs.any fun kv => decide (kv.1 = k) := by
  have e1 : (ks.any fun kv => decide (kv.1 = k)) = (ks.map (·.1)).any fun x => decide (x = k) := by rw [List.any_map]; rfl
  have e2 : (vs.any fun kv => decide (kv.1 = k)) = (vs.map (·.1)).any fun x => decide (x = k) := by rw [List.any_map]; rfl
  rw [e1, e2, h.1]
theorem RKs.app {ks : List (Key × D)} {vs : List (Key × V)} {k : Key} {d : D} {v : V} (h : RKs K φ H ks vs) (r : RD K φ H d v) : RKs K φ H (ks ++ [(k, d)]) (vs ++ [(k, v)]) := ⟨by simp [h.1], by simpa using h.2.append (RDs.cons r RDs.nil)⟩
theorem RKs.map {k : Key} {d : D} {v : V} (r : RD K φ H d v) : ∀ {ks : List (Key × D)} {vs : List (Key × V)}, RKs K φ H ks vs → RKs K φ H (ks.map fun kv => if kv.1 = k then (kv.1, d) else kv) (vs.map fun kv => if kv.1 = k then (kv.1, v) else kv)
  | [], vs, h => by rw [h.nil_inv]; exact RKs.nil'
  | (k', d') :: t, vs, h => by
    obtain ⟨v', t', rfl, rd, h⟩ := h.inv
    have ih := RKs.map (k := k) r h
    by_cases e : k' = k
    · simpa [e] using RKs.cons r ih
    · simpa [e] using RKs.cons rd ih
theorem RKs.put {ks : List (Key × D)} {vs : List (Key × V)} {k : Key} {d : D} {v : V} (h : RKs K φ H ks vs) (r : RD K φ H d v) : RKs K φ H (putD ks k d) (putK vs k v) := by
  unfold putD putK
  rw [h.any]
  split
  · exact h.map r
  · exact h.app r
theorem RKs.drop {k : Key} : ∀ {ks : List (Key × D)} {vs : List (Key × V)}, RKs K φ H ks vs → RKs K φ H (dropD ks k) (dropK vs k)
  | [], vs, h => by rw [h.nil_inv]; exact RKs.nil'
  | (k', d') :: t, vs, h => by
    obtain ⟨v', t', rfl, rd, h⟩ := h.inv
    have ih := RKs.drop (k := k) h
    unfold dropD dropK at ih ⊢
    by_cases e : k' = k
    · simpa [e, List.filter_cons] using ih
    · simpa [e, List.filter_cons] using RKs.cons rd ih
theorem putD_length {ks : List (Key × D)} {k : Key} {d : D} (h : ks.length < sizeLine) : (putD ks k d).length ≤ sizeLine := by
  unfold putD
  split
  · simp; omega
  · simp; omega
theorem RS.dct (h : RS K mg φ S H) {n : Nat} {ds : List (Key × D)} {v : V} (hn : S[n]? = some (.dct ds)) (r : RD K φ H (.ref n) v) : ∃ a vs, v = .ref a ∧ φ[n]? = some a ∧ H a = some (.dK vs) ∧ RKs K φ H ds vs ∧ ds.length ≤ sizeLine := by
  simp only [RD] at r
  obtain ⟨a, ha, rfl⟩ := r
  obtain ⟨vs, q, r, z⟩ := h.cell n _ a hn ha
  exact ⟨a, vs, rfl, ha, q, r, z⟩
theorem keyD_rd {d : D} {k : Key} {v : V} (h : keyD d = some k) (r : RD K φ H d v) : v = kV k := by
  cases d <;> simp [keyD] at h
  · subst h; exact r.int_inv
  · subst h; exact r.str_inv
def pInDict : D → D → W
  | y, .ref n => fun _ S Q _ => ∃ k kvs, keyD y = some k ∧ S[n]? = some (.dct kvs) ∧ Q (.bl (valD kvs k).isSome) S
  | _, _ => fail
def pNotInDict : D → D → W
  | y, .ref n => fun _ S Q _ => ∃ k kvs, keyD y = some k ∧ S[n]? = some (.dct kvs) ∧ Q (.bl (!(valD kvs k).isSome)) S
  | _, _ => fail
def pDget : D → D → W
  | .ref n, y => fun _ S Q _ => ∃ k kvs d, keyD y = some k ∧ S[n]? = some (.dct kvs) ∧ valD kvs k = some d ∧ Q d S
  | _, _ => fail
def wDnew : W := fun _ S Q _ => Q (.ref S.length) (S ++ [.dct []])
def wsDput (o i w : W) : WS := fun ρ S D E => w ρ S (fun d S1 => o ρ S1 (fun x S2 => i ρ S2 (fun y S3 => ∃ n k kvs, x = .ref n ∧ keyD y = some k ∧ S3[n]? = some (.dct kvs) ∧ kvs.length < sizeLine ∧ D.nx ρ (S3.set n (.dct (putD kvs k d)))) E) E) E
def isDct (S : Store) : D → Prop
  | .ref n => ∃ ks, S[n]? = some (.dct ks)
  | _ => False
def wMPopDict (o k : W) : W := fun ρ S Q E => o ρ S (fun x S1 => isDct S1 x ∧ k ρ S1 (fun y S2 => ∃ n kvs key d, x = .ref n ∧ S2[n]? = some (.dct kvs) ∧ keyD y = some key ∧ valD kvs key = some d ∧ Q d (S2.set n (.dct (dropD kvs key)))) E) E
def wMGetDict (o k : W) : W := fun ρ S Q E => o ρ S (fun x S1 => isDct S1 x ∧ k ρ S1 (fun y S2 => ∃ n kvs key, x = .ref n ∧ S2[n]? = some (.dct kvs) ∧ keyD y = some key ∧ Q ((valD kvs key).getD .non) S2) E) E
theorem isDct_ok (rs : RS K mg φ S H) {d : D} {v : V} (r : RD K φ H d v) (h : isDct S d) : ∃ a, v = .ref a ∧ IsD H a := by
  cases d with
  | ref n =>
    obtain ⟨ks, h⟩ := h
    obtain ⟨a, vs, rfl, _, e, _⟩ := rs.dct h r
    exact ⟨a, rfl, .inl ⟨vs, .inl e⟩⟩
  | _ => exact h.elim
theorem dget_of (rs : RS K mg φ S H) {n : Nat} {kvs : List (Key × D)} {k : Key} {y : D} {v u : V} (hn : S[n]? = some (.dct kvs)) (r : RD K φ H (.ref n) v) (hk : keyD y = some k) (ry : RD K φ H y u) :
    ∃ a o, v = .ref a ∧ DGet H a u o ∧ ((valD kvs k = none ∧ o = none) ∨ ∃ d w, valD kvs k = some d ∧ o = some w ∧ RD K φ H d w) := by
  obtain ⟨a, vs, rfl, _, e, rk, _⟩ := rs.dct hn r
  refine ⟨a, valV vs k, rfl, ?_, ?_⟩
  · rw [keyD_rd hk ry]; exact DGet.k e
  · rcases rk.val (k := k) with ⟨h1, h2⟩ | ⟨d, w, h1, h2, rd⟩
    · exact .inl ⟨h1, h2⟩
    · exact .inr ⟨d, w, h1, h2, rd⟩
end
section
variable {X : Cx} {WW : WX} {a b c e o i value : Expr} {pos pos' apos cpos p : Pos} {wa wb wo wi w : W}
theorem se_dnew : PE X (.Dict [] [] pos) (tm X.K X.mg WW wDnew) := PE.conv pe_dnewK fun σ H Q ⟨φ, ρ, S, rs, re, Q', E', hw, hn, hx⟩ p hp => by
  have x := Ext.alloc (o := .dK []) rs hp
  exact hn _ _ hw _ _ _ x (rs.alloc hp ⟨[], upd_same, RKs.nil', Nat.zero_le _⟩) (alloc_ref rs p)
theorem din_go (σ : L2.St) (H : Hp) (Q : VK) (q : tm X.K X.mg WW (wOp pInDict wa wb) σ H Q) : tDIn (tm X.K X.mg WW wa) (tm X.K X.mg WW wb) σ H Q := by
  refine tm_bind q fun d v φ ρ S H1 r1 h1 => ?_
  obtain ⟨rs, re, Q1, E1, w1, n1, x1⟩ := h1.bind
  refine ⟨φ, ρ, S, rs, re, Q1, E1, w1, fun d2 S2 h2 v2 φ2 H2 e2 rs2 rd2 => ?_, x1⟩
  obtain ⟨d2, φ2, S2, e2, rd2, q2⟩ := n1 d2 S2 h2 v2 φ2 H2 e2 rs2 rd2
  cases d2 with
  | ref n =>
    obtain ⟨rs, re, Q', E', ⟨k, kvs, hk, hS, hq⟩, hn, hx⟩ := q2
    obtain ⟨a, o, rfl, g, ho⟩ := dget_of rs hS rd2 hk (r1.mono e2)
    refine ⟨a, o, rfl, g, ?_⟩
    have : o.isSome = (valD kvs k).isSome := by rcases ho with ⟨h1, h2⟩ | ⟨d, w, h1, h2, _⟩ <;> rw [h1, h2] <;> rfl
    rw [this]
    exact hn _ _ hq _ _ _ Ext.refl rs RD.bl
  | _ => (obtain ⟨_, _, _, _, hz, _⟩ := q2; cases d <;> exact hz.elim)
theorem dnotin_go (σ : L2.St) (H : Hp) (Q : VK) (q : tm X.K X.mg WW (wOp pNotInDict wa wb) σ H Q) : tDNotIn (tm X.K X.mg WW wa) (tm X.K X.mg WW wb) σ H Q := by
  refine tm_bind q fun d v φ ρ S H1 r1 h1 => ?_
  obtain ⟨rs, re, Q1, E1, w1, n1, x1⟩ := h1.bind
  refine ⟨φ, ρ, S, rs, re, Q1, E1, w1, fun d2 S2 h2 v2 φ2 H2 e2 rs2 rd2 => ?_, x1⟩
  obtain ⟨d2, φ2, S2, e2, rd2, q2⟩ := n1 d2 S2 h2 v2 φ2 H2 e2 rs2 rd2
  cases d2 with
  | ref n =>
    obtain ⟨rs, re, Q', E', ⟨k, kvs, hk, hS, hq⟩, hn, hx⟩ := q2
    obtain ⟨a, o, rfl, g, ho⟩ := dget_of rs hS rd2 hk (r1.mono e2)
    refine ⟨a, o, rfl, g, ?_⟩
    have : o.isSome = (valD kvs k).isSome := by rcases ho with ⟨h1, h2⟩ | ⟨d, w, h1, h2, _⟩ <;> rw [h1, h2] <;> rfl
    rw [this]
    exact hn _ _ hq _ _ _ Ext.refl rs RD.bl
  | _ => (obtain ⟨_, _, _, _, hz, _⟩ := q2; cases d <;> exact hz.elim)
theorem se_inDict (hu : X.A.units + 65 < cLine) (ha : PE X a (tm X.K X.mg WW wa)) (hb : PE X b (tm X.K X.mg WW wb)) (h1 : behindInMarks .In b = false := by first | exact nobehind _ (by decide) (by decide) | rfl) : PE X (.Compare a [.In] [b] pos) (tm X.K X.mg WW (wOp pInDict wa wb)) := PE.conv (pe_cmp (pc_din (by omega) ha hb) h1) din_go
theorem st_inDict (hu : X.A.units + 65 < cLine) (ha : PE X a (tm X.K X.mg WW wa)) (hb : PE X b (tm X.K X.mg WW wb)) (h1 : behindInMarks .In b = false := by first | exact nobehind _ (by decide) (by decide) | rfl) : PT X (.Compare a [.In] [b] pos) (ttm X.K X.mg WW (wOp pInDict wa wb)) := PT.conv (pt_cmp (pc_din (by omega) ha hb) h1) fun σ H Q q => din_go σ H _ q
theorem se_notinDict (hu : X.A.units + 65 < cLine) (ha : PE X a (tm X.K X.mg WW wa)) (hb : PE X b (tm X.K X.mg WW wb)) (h1 : behindInMarks .NotIn b = false := by first | exact nobehind _ (by decide) (by decide) | rfl) : PE X (.Compare a [.NotIn] [b] pos) (tm X.K X.mg WW (wOp pNotInDict wa wb)) := PE.conv (pe_cmp (pc_dnotin (by omega) ha hb) h1) dnotin_go
theorem st_notinDict (hu : X.A.units + 65 < cLine) (ha : PE X a (tm X.K X.mg WW wa)) (hb : PE X b (tm X.K X.mg WW wb)) (h1 : behindInMarks .NotIn b = false := by first | exact nobehind _ (by decide) (by decide) | rfl) : PT X (.Compare a [.NotIn] [b] pos) (ttm X.K X.mg WW (wOp pNotInDict wa wb)) := PT.conv (pt_cmp (pc_dnotin (by omega) ha hb) h1) fun σ H Q q => dnotin_go σ H _ q
theorem se_dget (hu : X.A.units + 65 < cLine) (ha : PE X o (tm X.K X.mg WW wo)) (hb : PE X i (tm X.K X.mg WW wi)) (hs : NoSl i) : PE X (.Subscript o i pos) (tm X.K X.mg WW (wOp pDget wo wi)) := by
  refine PE.conv (pe_dget (by omega) ha hb hs) fun σ H Q q => ?_
  refine tm_bind q fun d v φ ρ S H1 r1 h1 => ?_
  obtain ⟨rs, re, Q1, E1, w1, n1, x1⟩ := h1.bind
  refine ⟨φ, ρ, S, rs, re, Q1, E1, w1, fun d2 S2 h2 v2 φ2 H2 e2 rs2 rd2 => ?_, x1⟩
  obtain ⟨d2, φ2, S2, e2, rd2, q2⟩ := n1 d2 S2 h2 v2 φ2 H2 e2 rs2 rd2
  cases d with
  | ref n =>
    obtain ⟨rs, re, Q', E', ⟨k, kvs, z, hk, hS, hz, hq⟩, hn, hx⟩ := q2
    obtain ⟨a, o, rfl, g, ho⟩ := dget_of rs hS (r1.mono e2) hk rd2
    rcases ho with ⟨h1, h2⟩ | ⟨d, w, h1, h2, rd⟩
    · rw [hz] at h1; cases h1
    · rw [hz] at h1; cases h1; subst h2
      exact ⟨a, w, rfl, g, hn _ _ hq _ _ _ Ext.refl rs rd⟩
  | _ => exact q2.no.elim
theorem ss_dput (hu : X.A.units + 65 < cLine) (ho : PE X o (tm X.K X.mg WW wo)) (hi : PE X i (tm X.K X.mg WW wi)) (hv : PE X value (tm X.K X.mg WW w)) (hs : swapsWith value (some (.Subscript o i pos')) pos.line X.env = pure false := by rfl) :
    PS X (.Assign [.Subscript o i pos'] value pos) (tsm X.K X.mg WW (wsDput wo wi w)) := by
  refine PS.conv (ps_dput (by omega) ho hi hv hs) fun D σ H q => ?_
  refine ts_ex0 (k := fun d => fun ρ S1 D E => wo ρ S1 (fun x S2 => wi ρ S2 (fun y S3 => ∃ n k kvs, x = .ref n ∧ keyD y = some k ∧ S3[n]? = some (.dct kvs) ∧ kvs.length < sizeLine ∧ D.nx ρ (S3.set n (.dct (putD kvs k d)))) E) E) q fun d v φ1 ρ S1 H1 rd q1 => ?_
  refine tsA.ex (k := fun x => fun ρ S2 D E => wi ρ S2 (fun y S3 => ∃ n k kvs, x = .ref n ∧ keyD y = some k ∧ S3[n]? = some (.dct kvs) ∧ kvs.length < sizeLine ∧ D.nx ρ (S3.set n (.dct (putD kvs k d)))) E) q1 fun x xv φ2 S2 H2 e2 rx q2 => ?_
  refine tsA.ex (k := fun y => fun ρ S3 D E => ∃ n k kvs, x = .ref n ∧ keyD y = some k ∧ S3[n]? = some (.dct kvs) ∧ kvs.length < sizeLine ∧ D.nx ρ (S3.set n (.dct (putD kvs k d)))) q2 fun y yv φ3 S3 H3 e3 ry ⟨rs, re, D', E', ⟨n, k, kvs, ex1, hk, hl, hz, hw⟩, hn, hr, hx⟩ => ?_
  subst ex1
  obtain ⟨a, vs, rfl, ha, hH, r, z⟩ := rs.dct hl (rx.mono e3)
  have ex := Ext.write (o := .dK (putK vs k v)) rs (List.mem_of_getElem? ha)
  have rv := (rd.mono e2).mono e3
  refine ⟨a, _, rfl, by rw [keyD_rd hk ry]; exact DPut.k hH (by
    have := congrArg List.length r.1
    simp at this; omega), ?_⟩
  exact hn _ _ hw _ _ _ ex (rs.write ha ⟨_, upd_same, (r.put rv).mono ex, putD_length hz⟩) (re.mono ex)
theorem se_mPopDict {j : Nat} (hr : Room j X.A) (ho : PE X o (tm X.K X.mg WW wo)) (hi : PE X e (tm X.K X.mg WW wi)) (m : M1 X o "pop" apos e cpos := by exact ⟨rfl, rfl, rfl, rfl⟩) : PE X (.Call (.Attribute o "pop" apos) [e] [] cpos) (tm X.K X.mg WW (wMPopDict wo wi)) := by
  refine PE.conv (pe_dpop1 ho hi m) fun σ H Q q => ?_
  obtain ⟨φ, ρ, S, rs, re, Q', E', hw, hn, hx⟩ := q
  refine ⟨φ, ρ, S, rs, re, _, E', hw, fun d S1 ⟨ht, h1⟩ v φ1 H1 x1 rs1 rd1 => ?_, hx⟩
  obtain ⟨a, rfl, hd⟩ := isDct_ok rs1 rd1 ht
  refine ⟨a, rfl, hd, φ1, ρ, S1, rs1, re.mono x1, _, E', h1, fun y S2 h2 u φ2 H2 x2 rs2 rd2 => ?_, fun c ρ2 S2 a u φ2 H2 σ2 x => hx c ρ2 S2 a u φ2 H2 σ2 (x1.trans x)⟩
  obtain ⟨n, kvs, k, z, rfl, hS, hk, hz, hq⟩ := h2
  obtain ⟨a2, vs, e, ha, eH, rk, zl⟩ := rs2.dct hS (rd1.mono x2)
  cases e
  rcases rk.val (k := k) with ⟨h1, h2⟩ | ⟨d, w, h1, h2, rd⟩
  · rw [hz] at h1; cases h1
  · rw [hz] at h1; cases h1
    have ex := Ext.write (o := .dK (dropK vs k)) rs2 (List.mem_of_getElem? ha)
    refine ⟨vs, k, w, eH, keyD_rd hk rd2, h2, ?_⟩
    exact hn _ _ hq _ _ _ ((x1.trans x2).trans ex) (rs2.write ha ⟨_, upd_same, (rk.drop (k := k)).mono ex, Nat.le_trans (List.length_filter_le _ _) zl⟩) (rd.mono ex)
theorem se_mGetDict {j : Nat} (hr : Room j X.A) (ho : PE X o (tm X.K X.mg WW wo)) (hi : PE X e (tm X.K X.mg WW wi)) (m : M1 X o "get" apos e cpos := by exact ⟨rfl, rfl, rfl, rfl⟩) : PE X (.Call (.Attribute o "get" apos) [e] [] cpos) (tm X.K X.mg WW (wMGetDict wo wi)) := by
  refine PE.conv (pe_dget1 (Nat.lt_of_le_of_lt (by omega) (hu_of hr)) ho hi m) fun σ H Q q => ?_
  obtain ⟨φ, ρ, S, rs, re, Q', E', hw, hn, hx⟩ := q
  refine ⟨φ, ρ, S, rs, re, _, E', hw, fun d S1 ⟨ht, h1⟩ v φ1 H1 x1 rs1 rd1 => ?_, hx⟩
  obtain ⟨a, rfl, hd⟩ := isDct_ok rs1 rd1 ht
  refine ⟨a, rfl, hd, φ1, ρ, S1, rs1, re.mono x1, _, E', h1, fun y S2 h2 u φ2 H2 x2 rs2 rd2 => ?_, fun c ρ2 S2 a u φ2 H2 σ2 x => hx c ρ2 S2 a u φ2 H2 σ2 (x1.trans x)⟩
  obtain ⟨n, kvs, k, rfl, hS, hk, hq⟩ := h2
  obtain ⟨a2, o, e, g, ho⟩ := dget_of rs2 hS (rd1.mono x2) hk rd2
  cases e
  refine ⟨o, g, ?_⟩
  rcases ho with ⟨h1, h2⟩ | ⟨d, w, h1, h2, rd⟩
  · rw [h1] at hq; rw [h2]
    exact hn _ _ hq _ _ _ (x1.trans x2) rs2 RD.non
  · rw [h1] at hq; rw [h2]
    exact hn _ _ hq _ _ _ (x1.trans x2) rs2 rd
end
/-! sorted(d) -/
def bSortedDict : BPf
  | [.ref n] => fun _ S Q _ => ∃ kvs ks, S[n]? = some (.dct kvs) ∧ kvs.map (·.1) = ks.map Sum.inl ∧ ks.length < 64 ∧ ∀ ys : List Int, ys.Perm ks → ys.Pairwise (· ≤ ·) → Q (.ref S.length) (S ++ [.lst (ys.map .int)])
  | _ => fail
/-! sorted(ints) -/
def bSortedInts : BPf
  | [.ref n] => fun _ S Q _ => ∃ ks : List Int, S[n]? = some (.lst (ks.map .int)) ∧ ∀ ys : List Int, ys.Perm ks → ys.Pairwise (· ≤ ·) → Q (.ref S.length) (S ++ [.lst (ys.map .int)])
  | _ => fail
section
variable {K : PySem.W.Frag} {mg : Str → Option Value} {WW : WX}
theorem rds_int_inv {φ : List Addr} {H : Hp} : ∀ {ks : List Int} {vs : List V}, RDs K φ H (ks.map D.int) vs → vs = ks.map V.int
  | [], vs, h => by simpa [RDs] using h
  | k :: ks, vs, h => by
    obtain ⟨v, r, rfl, h1, h2⟩ := (show RDs K φ H (.int k :: ks.map D.int) vs from h).inv
    rw [h1.int_inv, rds_int_inv h2]; rfl
theorem pb_sortedDict : PrB K mg WW bSortedDict (fun xs H Q => ∃ (a : Addr) (kvs : List (Key × V)) (ks : List Int), xs = [.ref a] ∧ Rd H a (.dK kvs) ∧ kvs.map (·.1) = ks.map Sum.inl ∧ ks.length < 64 ∧
    ∀ (ys : List Int) (p : Addr), ys.Perm ks → ys.Pairwise (· ≤ ·) → H p = none → Q (.ref p) (upd H p (.lst (ys.map V.int)))) := by
  intro φ ρ S σ H Q ds vs r h
  unfold bSortedDict at h
  split at h
  · obtain ⟨v, rfl, q0⟩ := r.one
    obtain ⟨rs, re, Q', E', ⟨kvs, ks, h1, h2, h3, hq⟩, hn, hx⟩ := h
    obtain ⟨a1, v1, rfl, _, e1, q1, z⟩ := rs.dct h1 q0
    refine ⟨a1, v1, ks, rfl, .inl e1, by rw [← q1.1]; exact h2, h3, fun ys p h4 h5 hp => ?_⟩
    exact mk_list rs (rds_ints ys) (by have := h4.length_eq; simp; have : (64 : Nat) ≤ sizeLine := by decide
                                       omega) hn (hq ys h4 h5) p hp
  · exact h.no.elim
theorem pb_sortedInts : PrB K mg WW bSortedInts (rSortedI K) := by
  intro φ ρ S σ H Q ds vs r h
  unfold bSortedInts at h
  split at h
  · obtain ⟨v, rfl, q0⟩ := r.one
    obtain ⟨rs, re, Q', E', ⟨ks, h1, hq⟩, hn, hx⟩ := h
    obtain ⟨a1, v1, rfl, _, e1, q1, z⟩ := rs.lst h1 q0
    refine ⟨a1, ks, rfl, SqL.of (by rw [← rds_int_inv q1]; exact e1), fun ys p h4 h5 hp => ?_⟩
    exact mk_list rs (rds_ints ys) (by have := h4.length_eq; simp at z ⊢; omega) hn (hq ys h4 h5) p hp
  · exact h.no.elim
end
section
variable {X : Cx} {WW : WX} {e : Expr} {es : List Expr} {pos p : Pos} {ws : List W}
theorem se_bSortedDict {j : Nat} (hr : Room j X.A) (hg : Gl X "sorted") (hm : X.mg "sorted" = none) (ha : PA X (e :: es) (tma X.K X.mg WW ws)) (he : starEach (e :: es) X.env = (false, eval e X.env) :: starEach es X.env := by rfl) (hpl : (backTo pos (starEach es X.env)).any (·.1) = false := by rfl) (hc : X.calm = true := by rfl) :
    PE X (.Call (.Name "sorted" p) (e :: es) [] pos) (tm X.K X.mg WW (wB bSortedDict ws)) := se_callB (call_sortedDI hc) pb_sortedDict hg hm (by decide +kernel) ha (by decide) (by decide) he hpl
theorem se_bSortedInts {j : Nat} (hr : Room j X.A) (hg : Gl X "sorted") (hm : X.mg "sorted" = none) (ha : PA X (e :: es) (tma X.K X.mg WW ws)) (he : starEach (e :: es) X.env = (false, eval e X.env) :: starEach es X.env := by rfl) (hpl : (backTo pos (starEach es X.env)).any (·.1) = false := by rfl) (hc : X.calm = true := by rfl) :
    PE X (.Call (.Name "sorted" p) (e :: es) [] pos) (tm X.K X.mg WW (wB bSortedInts ws)) := se_callB cr_sortedI pb_sortedInts hg hm (by decide +kernel) ha (by decide) (by decide) he hpl
end
section
variable {ρ : DEnv} {S : Store} {Q : PQ} {E : PX} {DD : DEnds} {a b c : W} {y d : D} {i : Nat} {n : Int}
@[simp] theorem e_dnew : wDnew ρ S Q E = Q (.ref S.length) (S ++ [.dct []]) := rfl
@[simp] theorem e_inDict : pInDict (.int n) (.ref i) ρ S Q E = ∃ k kvs, keyD (.int n) = some k ∧ S[i]? = some (.dct kvs) ∧ Q (.bl (valD kvs k).isSome) S := rfl
@[simp] theorem e_notinDict : pNotInDict (.int n) (.ref i) ρ S Q E = ∃ k kvs, keyD (.int n) = some k ∧ S[i]? = some (.dct kvs) ∧ Q (.bl (!(valD kvs k).isSome)) S := rfl
@[simp] theorem e_dget : pDget (.ref i) y ρ S Q E = ∃ k kvs d, keyD y = some k ∧ S[i]? = some (.dct kvs) ∧ valD kvs k = some d ∧ Q d S := rfl
@[simp] theorem e_dput : wsDput a b c ρ S DD E = c ρ S (fun d S1 => a ρ S1 (fun x S2 => b ρ S2 (fun y S3 => ∃ n k kvs, x = .ref n ∧ keyD y = some k ∧ S3[n]? = some (.dct kvs) ∧ kvs.length < sizeLine ∧ DD.nx ρ (S3.set n (.dct (putD kvs k d)))) E) E) E := rfl
@[simp] theorem e_mPopDict : wMPopDict a b ρ S Q E = a ρ S (fun x S1 => isDct S1 x ∧ b ρ S1 (fun y S2 => ∃ n kvs key d, x = .ref n ∧ S2[n]? = some (.dct kvs) ∧ keyD y = some key ∧ valD kvs key = some d ∧ Q d (S2.set n (.dct (dropD kvs key)))) E) E := rfl
@[simp] theorem e_mGetDict : wMGetDict a b ρ S Q E = a ρ S (fun x S1 => isDct S1 x ∧ b ρ S1 (fun y S2 => ∃ n kvs key, x = .ref n ∧ S2[n]? = some (.dct kvs) ∧ keyD y = some key ∧ Q ((valD kvs key).getD .non) S2) E) E := rfl
@[simp] theorem e_isDct : isDct S (.ref i) = ∃ ks, S[i]? = some (.dct ks) := rfl
@[simp] theorem e_keyI : keyD (.int n) = some (.inl n) := rfl
@[simp] theorem e_sortedDict : bSortedDict [.ref i] ρ S Q E = ∃ kvs ks, S[i]? = some (.dct kvs) ∧ kvs.map (·.1) = ks.map Sum.inl ∧ ks.length < 64 ∧ ∀ ys : List Int, ys.Perm ks → ys.Pairwise (· ≤ ·) → Q (.ref S.length) (S ++ [.lst (ys.map .int)]) := rfl
@[simp] theorem e_sortedInts : bSortedInts [.ref i] ρ S Q E = ∃ ks : List Int, S[i]? = some (.lst (ks.map .int)) ∧ ∀ ys : List Int, ys.Perm ks → ys.Pairwise (· ≤ ·) → Q (.ref S.length) (S ++ [.lst (ys.map .int)]) := rfl
end
/-! ### moves_of -/
theorem zipD_int : ∀ (xs ys : List Int), zipD (xs.map D.int) (ys.map D.int) = (xs.zip ys).map eMv.enc
  | [], ys => by simp [zipD]
  | x :: xs, [] => by simp [zipD]
  | x :: xs, y :: ys => by
    have := zipD_int xs ys
    simp only [zipD] at this
    simp [zipD, eMv, eTh] at this ⊢
    exact this
def sp_moves_of : SPf
  | [.ref n, .ref m], S, Q, _ => ∃ xs ys : List Int, S[n]? = some (.lst (xs.map .int)) ∧ S[m]? = some (.lst (ys.map .int)) ∧ xs.length ≤ 50000 ∧ Q (.ref S.length) (S ++ [mvp (movesF (xs.zip ys))])
  | _, _, _, _ => False
theorem len_moves_of : ∀ ds S Q E, sp_moves_of ds S Q E → ds.length = 2 := by
  intro ds S Q E h; unfold sp_moves_of at h; split at h <;> first | rfl | exact h.elim
abbrev n_moves_of : List Str := ["places", "aims", "pairs", "onward", "pair", "backward"]
def w_moves_of : WS :=
  wsSeq (wsSet 2 (wZL (wVar 0) (wVar 1))) (wsSeq (wsSet 3 (wComp [4] (tN 4) (wVar 2) (wOp pGt (wOp pIx (wVar 4) (ret (.int 1))) (wOp pIx (wVar 4) (ret (.int 0)))) (wVar 4))) (wsSeq (wsSet 5 (wComp [4] (tN 4) (wVar 2) (wOp pLt (wOp pIx (wVar 4) (ret (.int 1))) (wOp pIx (wVar 4) (ret (.int 0)))) (wVar 4))) (wsRet (wOp pAdd (wOp1 pRev (wVar 3)) (wVar 5)))))
theorem map_filter_mv (f : Mv → Bool) (prs : List Mv) (g : D → Option D) (hg : ∀ x : Mv, g (eMv.enc x) = if f x = true then some (eMv.enc x) else none) : (prs.map eMv.enc).filterMap g = (prs.filter f).map eMv.enc := by
  induction prs with
  | nil => rfl
  | cons x r ih =>
    rw [List.map_cons, List.filterMap_cons, hg, List.filter_cons]
    by_cases h : f x = true
    · simp [h, ih]
    · simp [h, ih]
theorem ix_mv0 (x : Mv) : atI [D.int x.1, D.int x.2] 0 = some (.int x.1) := rfl
theorem ix_mv1 (x : Mv) : atI [D.int x.1, D.int x.2] 1 = some (.int x.2) := rfl
def onwD : D → Option D
  | .tup [.int a, .int b] => if a < b then some (.tup [.int a, .int b]) else none
  | _ => none
def bkwD : D → Option D
  | .tup [.int a, .int b] => if b < a then some (.tup [.int a, .int b]) else none
  | _ => none
theorem ob_moves_of : Ob n_moves_of sp_moves_of w_moves_of := by
  intro ds S Q E hS hd h
  unfold sp_moves_of at h
  split at h
  · rename_i n m
    obtain ⟨xs, ys, hn, hm, hl, hq⟩ := h
    simp [w_moves_of, startD, atL]
    refine ⟨n, m, ⟨rfl, rfl⟩, _, hn, _, hm, ?_⟩
    rw [zipD_int]
    generalize hp : xs.zip ys = prs at *
    have hpl : prs.length ≤ 50000 := by rw [← hp, List.length_zip]; omega
    refine comp_pure onwD get_at (fun x hx N hN => ?_) ?_
    · obtain ⟨p, _, rfl⟩ := List.mem_map.mp hx
      have e0 := ix_mv0 p
      have e1 := ix_mv1 p
      simp [eMv, eTh, e0, e1, onwD] at hN ⊢
      by_cases h : p.1 < p.2
      · exact .inr ⟨h, by simpa [h] using hN⟩
      · exact .inl ⟨by omega, by simpa [h] using hN⟩
    · rw [map_filter_mv (fun x => decide (x.1 < x.2)) prs onwD (fun x => by simp [eMv, eTh, onwD])]
      simp
      refine comp_pure bkwD (get_at (G := [_])) (fun x hx N hN => ?_) ?_
      · obtain ⟨p, _, rfl⟩ := List.mem_map.mp hx
        have e0 := ix_mv0 p
        have e1 := ix_mv1 p
        simp [eMv, eTh, e0, e1, bkwD] at hN ⊢
        by_cases h : p.2 < p.1
        · exact .inr ⟨h, by simpa [h] using hN⟩
        · exact .inl ⟨by omega, by simpa [h] using hN⟩
      · rw [map_filter_mv (fun x => decide (x.2 < x.1)) prs bkwD (fun x => by simp [eMv, eTh, bkwD])]
        have l1 := List.length_filter_le (fun x : Mv => decide (x.1 < x.2)) prs
        have l2 := List.length_filter_le (fun x : Mv => decide (x.2 < x.1)) prs
        have hz4 : (200000 : Nat) ≤ sizeLine := by decide
        simp
        refine ⟨by omega, ?_⟩
        refine ret_list (S := S) (ds := (movesF prs).map eMv.enc) hS (fun i hi => by rw [List.getElem?_append_left hi]) ?_ (by omega) (cls_map eMv _ _) (by simpa using hq)
        simp [movesF]
  · exact h.elim
/-! ### the walk from rising places to rising aims -/
abbrev SrtI (l : List Int) : Prop := l.Pairwise (· < ·)
inductive Way : List Mv → List Int → List Int → Prop where
  | nil (c : List Int) : Way [] c c
  | cons {x y : Int} {mv : List Mv} {L R c : List Int} : SrtI (L ++ x :: R) → SrtI (L ++ y :: R) → x ≠ y → Way mv (L ++ y :: R) c → Way ((x, y) :: mv) (L ++ x :: R) c
theorem srt_sub {L R : List Int} {x : Int} : SrtI (L ++ x :: R) ↔ SrtI L ∧ (∀ a ∈ L, a < x) ∧ (∀ b ∈ R, x < b) ∧ SrtI R ∧ ∀ a ∈ L, ∀ b ∈ R, a < b := by
  unfold SrtI
  rw [List.pairwise_append, List.pairwise_cons]
  constructor
  · rintro ⟨h1, ⟨h2, h3⟩, h4⟩
    exact ⟨h1, fun a ha => h4 a ha x (List.mem_cons_self ..), h2, h3, fun a ha b hb => h4 a ha b (List.mem_cons_of_mem _ hb)⟩
  · rintro ⟨h1, h2, h3, h4, h5⟩
    exact ⟨h1, ⟨h3, h4⟩, fun a ha b hb => by
      rcases List.mem_cons.mp hb with rfl | hb
      · exact h2 a ha
      · exact h5 a ha b hb⟩
def mx (x : Mv) : Int := if x.1 < x.2 then x.2 else x.1
theorem mx_ge (x : Mv) : x.1 ≤ mx x ∧ x.2 ≤ mx x := by unfold mx; split <;> omega
theorem srt_mx : ∀ {prs : List Mv}, SrtI (prs.map (·.1)) → SrtI (prs.map (·.2)) → SrtI (prs.map mx)
  | [], _, _ => .nil
  | x :: r, h1, h2 => by
    simp only [SrtI, List.map_cons, List.pairwise_cons] at *
    refine ⟨fun b hb => ?_, srt_mx h1.2 h2.2⟩
    obtain ⟨y, hy, rfl⟩ := List.mem_map.mp hb
    have a1 := h1.1 _ (List.mem_map.mpr ⟨y, hy, rfl⟩)
    have a2 := h2.1 _ (List.mem_map.mpr ⟨y, hy, rfl⟩)
    have := mx_ge y
    unfold mx at this ⊢
    split <;> omega
theorem way1 {c : List Int} {rest : List Mv} : ∀ (U : List Mv) (R : List Int), SrtI ((U.reverse.map (·.1)) ++ R) → SrtI (U.reverse.map mx ++ R) → Way rest (U.reverse.map mx ++ R) c →
    Way ((U.filter fun x => decide (x.1 < x.2)) ++ rest) (U.reverse.map (·.1) ++ R) c
  | [], R, _, _, h => by simpa using h
  | x :: U, R, h1, h2, h => by
    simp only [List.reverse_cons, List.map_append, List.map_cons, List.map_nil, List.append_assoc, List.singleton_append] at h1 h2 h ⊢
    replace h1 := srt_sub.mp h1
    replace h2 := srt_sub.mp h2
    obtain ⟨x1, x2⟩ := x
    have key : ∀ a ∈ U.reverse.map (fun y : Mv => y.1), a < mx (x1, x2) := fun a ha => by
      have := h1.2.1 a ha
      have := (mx_ge (x1, x2)).1
      simp at *; omega
    have hb : ∀ b ∈ R, mx (x1, x2) < b := h2.2.2.1
    have s2 : SrtI (U.reverse.map (fun y : Mv => y.1) ++ mx (x1, x2) :: R) := srt_sub.mpr ⟨h1.1, key, hb, h1.2.2.2.1, h1.2.2.2.2⟩
    have ih := way1 U (mx (x1, x2) :: R) s2 (srt_sub.mpr h2) h
    by_cases hx : x1 < x2
    · have e : mx (x1, x2) = x2 := by simp [mx, hx]
      rw [List.filter_cons, if_pos (by simpa using hx), List.cons_append]
      rw [e] at s2 ih
      exact .cons (srt_sub.mpr h1) s2 (by omega) ih
    · have e : mx (x1, x2) = x1 := by simp [mx, hx]
      rw [List.filter_cons, if_neg (by simpa using hx)]
      rw [e] at ih
      exact ih
theorem way2 : ∀ (V : List Mv) (A : List Int), SrtI (A ++ V.map mx) → SrtI (A ++ V.map (·.2)) → Way (V.filter fun x => decide (x.2 < x.1)) (A ++ V.map mx) (A ++ V.map (·.2))
  | [], A, _, _ => by simpa using Way.nil A
  | x :: V, A, h1, h2 => by
    obtain ⟨x1, x2⟩ := x
    simp only [List.map_cons] at h1 h2 ⊢
    replace h1 := srt_sub.mp h1
    replace h2 := srt_sub.mp h2
    have hx2 := (mx_ge (x1, x2)).2
    have s : SrtI (A ++ x2 :: V.map mx) := srt_sub.mpr ⟨h1.1, h2.2.1, fun b hb => by
      have := h1.2.2.1 b hb
      simp at *; omega, h1.2.2.2.1, h1.2.2.2.2⟩
    have ih := way2 V (A ++ [x2]) (by simpa using s) (by simpa using srt_sub.mpr h2)
    simp only [List.append_assoc, List.singleton_append] at ih
    by_cases hx : x2 < x1
    · have e : mx (x1, x2) = x1 := by simp [mx]; omega
      rw [List.filter_cons, if_pos (by simpa using hx)]
      rw [e] at h1 ⊢
      exact .cons (srt_sub.mpr h1) s (by omega) ih
    · have e : mx (x1, x2) = x2 := by unfold mx; simp; omega
      rw [List.filter_cons, if_neg (by simpa using hx)]
      rw [e]
      exact ih
theorem way_moves {prs : List Mv} (h1 : SrtI (prs.map (·.1))) (h2 : SrtI (prs.map (·.2))) : Way (movesF prs) (prs.map (·.1)) (prs.map (·.2)) := by
  have h3 := srt_mx h1 h2
  have w2 := way2 prs [] (by simpa using h3) (by simpa using h2)
  have w1 := way1 (c := prs.map (·.2)) (rest := prs.filter fun x => decide (x.2 < x.1)) prs.reverse [] (by simpa using h1) (by simpa using h3) (by simpa using w2)
  simpa [movesF, List.filter_reverse] using w1
theorem Way.last {mv : List Mv} {a c : List Int} (h : Way mv a c) (he : mv = []) : a = c := by
  cases h with
  | nil => rfl
  | cons => simp at he
/-! ### l.count(x) of data, sorted pairs -/
def rCountD (K : PySem.W.Frag) : V → List V → Hp → VK → Prop := fun x xs H Q => ∃ (a : Addr) (y : V) (d : PyData) (ds : List PyData), x = V.ref a ∧ xs = [y] ∧ Dp K H (V.ref a) (.list ds) ∧ Dp K H y d ∧
  SeqAt.shaped (.list ds) = true ∧ SeqAt.shaped d = true ∧ Q (.int (ds.countP (fun z => PyData.eqv z d) : Nat)) H
section
variable {X : Cx}
theorem mt_countD (hu : X.A.units + 65 < cLine) : MtR X "list.count" (rCountD X.K) := by
  intro pins s σ H x xs v us Q I rx rxs h
  obtain ⟨a, y, d, ds, rfl, rfl, hl, hy, sl, sd, q⟩ := h
  cases rx
  cases rxs with
  | cons ry rt =>
    rename_i uy ut
    cases rt
    obtain ⟨bs, r1⟩ := Dp.reads I d y uy hy ry
    have hxs : PyData.canLayAll0 ds = true := SeqAt.canLay_of_shaped sl
    have hroom : X.A.units + 1 + min (PyData.depthAll ds) d.depth < cLine := room_in_shaped sd hu
    cases hl with
    | lst hs ha =>
      obtain ⟨its, rv, ⟨⟨cls, dd, data, sls⟩, n, ho, hc, hdn, hdt⟩, hlen⟩ := I.list hs
      simp only at hc hdt
      subst hc hdt
      obtain ⟨as, h4⟩ := Dp.readsAll I ds _ its ha rv
      have hmap : its.map (SeqAt.readOf s.heap) = ds := SeqAt.readsAll_map ds its as hxs h4
      refine call_meets PySem.F.slot_list_count ⟨_, ho, rfl⟩ PySem.F.entry_list_count (PySem.F.args_list_count_2 _ _)
        (SeqAt.list_countAt a its.toArray n dd sls uy (fun u => PyData.eqv (SeqAt.readOf s.heap u) d)) ⟨ho, SeqAt.items_eqAt (vs := its.toArray) (show ReadsAll s.heap its.toArray.toList ds as from h4) r1 hxs (SeqAt.canLay_of_shaped sd) hroom, ?_⟩
      have e : its.toArray.toList.countP (fun u => PyData.eqv (SeqAt.readOf s.heap u) d) = ds.countP (fun z => PyData.eqv z d) := by
        rw [← hmap, List.countP_map]; rfl
      rw [e]
      exact ⟨.int (ds.countP (fun z => PyData.eqv z d) : Nat), H, I.tok _, ⟨_, rfl⟩, q⟩
end
def mCount : D → List D → W
  | .ref n, [d] => fun _ S Q _ => ∃ ps p, DPy S (.ref n) (.list ps) ∧ DPy S d p ∧ SeqAt.shaped (.list ps) = true ∧ SeqAt.shaped p = true ∧ Q (.int (ps.countP (fun z => PyData.eqv z p) : Nat)) S
  | _, _ => fail
section
variable {K : PySem.W.Frag} {mg : Str → Option Value} {WW : WX}
theorem pm_count : PrM K mg WW mCount (rCountD K) := by
  intro φ ρ S σ H Q d ds x vs r1 r2 h
  unfold mCount at h
  split at h
  · obtain ⟨v, rfl, r⟩ := r2.one
    obtain ⟨rs, re, Q', E', ⟨ps, p, d1, d2, s1, s2, hq⟩, hn, hx⟩ := h
    have dp1 := d1.dp rs r1
    cases d1 with
    | lst h1 h2 =>
      obtain ⟨a1, v1, rfl, ha, e1, q1, _⟩ := rs.lst h1 r1
      exact ⟨a1, v, p, ps, rfl, rfl, dp1, d2.dp rs r, s1, s2, hn _ _ hq _ _ _ Ext.refl rs RD.int⟩
  · exact h.no.elim
end
section
variable {X : Cx} {WW : WX} {e o : Expr} {es : List Expr} {apos cpos : Pos} {wo wa : W} {ws : List W}
theorem se_count (hu : X.A.units + 65 < cLine) (ho : PE X o (tm X.K X.mg WW wo)) (ha : PE X e (tm X.K X.mg WW wa)) (hbase : attributeBase o "count" X.env (eval o X.env) = eval o X.env := by rfl)
    (hs0 : starEach [e] X.env = (false, eval e X.env) :: starEach [] X.env := by rfl)
    (hfew : ((backTo cpos (starEach [e] X.env)).all (fun x => !x.1) && (backToKw cpos (keywordEach [] X.env)).all (fun x => x.1.isSome) && decide (([e] : List Expr).length + ([] : List Keyword).length + (if ([] : List Keyword).isEmpty then 0 else 1) < 30)) = true := by rfl)
    (hline : (apos.endLine == cpos.line) = true := by rfl) (hplain : (backTo cpos (starEach [] X.env)).any (·.1) = false := by rfl) : PE X (.Call (.Attribute o "count" apos) [e] [] cpos) (tm X.K X.mg WW (wM "list" mCount wo [wa])) :=
  PE.conv (pe_bm PySem.F.plainAttrs_list PySem.F.slot_list_count PySem.F.type_list_count (mt_countD hu) ho (sa_cons ha sa_nil hs0) hbase hfew hline hs0 hplain) (wM_go pm_count)
end
@[simp] theorem e_mCount {ρ : DEnv} {S : Store} {Q : PQ} {E : PX} {n : Nat} {d : D} : mCount (.ref n) [d] ρ S Q E = ∃ ps p, DPy S (.ref n) (.list ps) ∧ DPy S d p ∧ SeqAt.shaped (.list ps) = true ∧ SeqAt.shaped p = true ∧ Q (.int (ps.countP (fun z => PyData.eqv z p) : Nat)) S := rfl
theorem count_en {α : Type} [DecidableEq α] (e : En α) {ρ : DEnv} {S : Store} {Q : PQ} {E : PX} {n : Nat} {xs : List α} {x : α} (h : S[n]? = some (.lst (xs.map e.enc))) (q : Q (.int (xs.count x : Nat)) S) : mCount (.ref n) [e.enc x] ρ S Q E := by
  refine ⟨_, _, .lst h (dpys_map e S xs), e.dpy S x, shaped_list e xs, shaped_en e x, ?_⟩
  have : (xs.map e.py).countP (fun z => PyData.eqv z (e.py x)) = xs.count x := by
    rw [List.countP_map, List.count]
    congr 1
    funext y
    show PyData.eqv (e.py y) (e.py x) = (y == x)
    rw [e.eqv, Bool.beq_eq_decide_eq]
  rw [this]; exact q
/-! sorted(list of pairs) -/
def bSortedPairs : BPf
  | [.ref n] => fun _ S Q _ => ∃ ts : List Th, S[n]? = some (thp ts) ∧ ∀ us : List Th, us.Perm ts → us.Pairwise (fun a b => SrtO.lexB b a = false) → Q (.ref S.length) (S ++ [thp us])
  | _ => fail
def pkV (H : Hp) : V → Th
  | .ref t => match H t with
    | some (.tup [.int i, .int j]) => (i, j)
    | _ => (0, 0)
  | _ => (0, 0)
section
variable {K : PySem.W.Frag} {mg : Str → Option Value} {WW : WX}
theorem rds_th {φ : List Addr} {H : Hp} : ∀ {ts : List Th} {vs : List V}, RDs K φ H (ts.map eTh.enc) vs → ts = vs.map (pkV H) ∧ ∀ x ∈ vs, ∃ t, x = V.ref t ∧ H t = some (.tup [.int (pkV H x).1, .int (pkV H x).2])
  | [], vs, h => by
    have : vs = [] := by simpa [RDs] using h
    subst this; exact ⟨rfl, fun _ h => nomatch h⟩
  | t :: ts, vs, h => by
    obtain ⟨v, r, rfl, h1, h2⟩ := (show RDs K φ H (.tup [.int t.1, .int t.2] :: ts.map eTh.enc) vs from h).inv
    obtain ⟨e, f⟩ := rds_th h2
    simp only [RD] at h1
    obtain ⟨a, ws, rfl, ha, h1⟩ := h1
    obtain ⟨u, w, rfl, q1, q2⟩ := h1.two
    rw [q1.int_inv, q2.int_inv] at ha
    have ek : pkV H (.ref a) = t := by simp [pkV, ha]
    refine ⟨by rw [List.map_cons, ek, ← e], fun x hx => ?_⟩
    rcases List.mem_cons.mp hx with rfl | hx
    · exact ⟨a, rfl, by rw [ek]; exact ha⟩
    · exact f x hx
theorem th_rds {φ : List Addr} {H : Hp} : ∀ {vs : List V}, (∀ x ∈ vs, ∃ t, x = V.ref t ∧ H t = some (.tup [.int (pkV H x).1, .int (pkV H x).2])) → RDs K φ H ((vs.map (pkV H)).map eTh.enc) vs
  | [], _ => RDs.nil
  | v :: vs, h => by
    obtain ⟨t, rfl, ht⟩ := h v (List.mem_cons_self ..)
    rw [List.map_cons, List.map_cons]
    refine RDs.cons ?_ (th_rds fun x hx => h x (List.mem_cons_of_mem _ hx))
    show RD K φ H (.tup [.int (pkV H (.ref t)).1, .int (pkV H (.ref t)).2]) _
    simp only [RD]
    exact ⟨t, _, rfl, ht, RDs.cons RD.int (RDs.cons RD.int RDs.nil)⟩
theorem pb_sortedPairs : PrB K mg WW bSortedPairs (rSortedPO K) := by
  intro φ ρ S σ H Q ds vs r h
  unfold bSortedPairs at h
  split at h
  · obtain ⟨v, rfl, q0⟩ := r.one
    obtain ⟨rs, re, Q', E', ⟨ts, h1, hq⟩, hn, hx⟩ := h
    obtain ⟨a1, v1, rfl, _, e1, q1, z⟩ := rs.lst h1 q0
    obtain ⟨et, ft⟩ := rds_th q1
    refine ⟨a1, v1, pkV H, rfl, SqL.of e1, ft, fun ys p hs hst hp => ?_⟩
    have hperm := hst.perm
    have fy : ∀ x ∈ ys, ∃ t, x = V.ref t ∧ H t = some (.tup [.int (pkV H x).1, .int (pkV H x).2]) := fun x hx => ft x (hperm.subset hx)
    refine mk_list rs (th_rds fy) ?_ hn (hq (ys.map (pkV H)) (by rw [et]; exact hperm.map _) (List.pairwise_map.mpr hs)) p hp
    have := hperm.length_eq
    have := q1.length
    simp at z this ⊢; omega
  · exact h.no.elim
end
section
variable {X : Cx} {WW : WX} {e : Expr} {es : List Expr} {pos p : Pos} {ws : List W}
theorem se_bSortedPairs {j : Nat} (hr : Room j X.A) (hg : Gl X "sorted") (hm : X.mg "sorted" = none) (ha : PA X (e :: es) (tma X.K X.mg WW ws)) (he : starEach (e :: es) X.env = (false, eval e X.env) :: starEach es X.env := by rfl) (hpl : (backTo pos (starEach es X.env)).any (·.1) = false := by rfl) :
    PE X (.Call (.Name "sorted" p) (e :: es) [] pos) (tm X.K X.mg WW (wB bSortedPairs ws)) := se_callB cr_sortedPO pb_sortedPairs hg hm (by decide +kernel) ha (by decide) (by decide) he hpl
end
@[simp] theorem e_sortedPairs {ρ : DEnv} {S : Store} {Q : PQ} {E : PX} {i : Nat} : bSortedPairs [.ref i] ρ S Q E = ∃ ts : List Th, S[i]? = some (thp ts) ∧ ∀ us : List Th, us.Perm ts → us.Pairwise (fun a b => SrtO.lexB b a = false) → Q (.ref S.length) (S ++ [thp us]) := rfl
/-- a list whose keys are all unlike is sorted in one way -/
theorem lex_sorted {us ts : List Th} (hp : us.Perm ts) (hs : us.Pairwise (fun a b => SrtO.lexB b a = false)) (ht : ts.Pairwise (fun a b => a.1 < b.1)) : us = ts := by
  refine hp.eq_of_pairwise (le := fun a b => a.1 < b.1 ∨ a = b) (fun a b _ _ h1 h2 => ?_) ?_ (ht.imp fun h => .inl h)
  · rcases h1 with h1 | h1
    · rcases h2 with h2 | h2
      · omega
      · exact h2.symm
    · exact h1
  · refine hs.imp_of_mem fun {a b} ha hb h => ?_
    have hk : ∀ a ∈ ts, ∀ b ∈ ts, a.1 = b.1 → a = b := fun a ha b hb e => by
      obtain ⟨i, hi, rfl⟩ := List.mem_iff_getElem.mp ha
      obtain ⟨j, hj, rfl⟩ := List.mem_iff_getElem.mp hb
      rcases Nat.lt_trichotomy i j with h | h | h
      · have := List.pairwise_iff_getElem.mp ht i j hi hj h; omega
      · subst h; rfl
      · have := List.pairwise_iff_getElem.mp ht j i hj hi h; omega
    by_cases e : a.1 = b.1
    · exact .inr (hk a (hp.subset ha) b (hp.subset hb) e)
    · left
      simp [SrtO.lexB, Ne.symm e] at h
      omega
/-- what is told behind a call: the old cells, and some new ones in an order of one's own -/
theorem Gc.many {S0 S' : Store} {ks : List Nat} {cs : List Cell} {d' d2 : D} {n : Nat} (hn : S0.length = n) (hc : ClS S0) (h0 : ∀ i, i < n → S'[i]? = S0[i]?) (hk : ks.Nodup) (hnk : ∀ k ∈ ks, n ≤ k) (hl : ks.length = cs.length)
    (hcell : ∀ (i k : Nat) (c : Cell), ks[i]? = some k → cs[i]? = some c → ∃ c', S'[k]? = some c' ∧ RenC (List.range n ++ ks) c c') (hd : Ren (List.range n ++ ks) d2 d') : Gc n S' d' (S0 ++ cs) d2 := by
  subst hn
  have hψ : ∀ i, i < S0.length → (List.range S0.length ++ ks)[i]? = some i := fun i h => range_get h
  refine ⟨List.range S0.length ++ ks, ⟨ks, rfl⟩, ?_, by simp [hl], fun i j c h1 h2 => ?_, hd⟩
  · rw [List.nodup_append]
    exact ⟨List.nodup_range, hk, fun a ha b hb e => by
      have h1 : a < S0.length := by simpa using ha
      have h2 := hnk b hb
      omega⟩
  · by_cases hi : i < S0.length
    · rw [hψ i hi] at h2; cases h2
      rw [List.getElem?_append_left hi] at h1
      exact ⟨c, by rw [h0 i hi]; exact h1, RenC.id hψ (hc i c h1)⟩
    · rw [List.getElem?_append_right (by omega)] at h1
      rw [List.getElem?_append_right (by simp; omega)] at h2
      simp at h2
      exact hcell _ _ _ h2 h1
theorem ren_new {n i k : Nat} {ks : List Nat} (h : ks[i]? = some k) : Ren (List.range n ++ ks) (.ref (n + i)) (.ref k) := by
  simp only [Ren]
  exact ⟨k, by rw [List.getElem?_append_right (by simp)]; simpa using h, rfl⟩
theorem ren_old {n : Nat} {ks : List Nat} {d : D} (h : Cl n d) : Ren (List.range n ++ ks) d d := Ren.id (fun i hi => range_get hi) h
theorem renC_old {n : Nat} {ks : List Nat} {ds : List D} (h : Cls' n ds) : RenC (List.range n ++ ks) (.lst ds) (.lst ds) := RenC.id (c := .lst ds) (fun i hi => range_get hi) h
/-! ### disks: two areas and the sign; three new lists in a new list -/
structure Dk where
  a : List Pl
  b : List Pl
  c : List Pl
/-- a disk that stands at four places behind n -/
def dkC (n : Nat) (d : Dk) : Store := [shp d.a, shp d.b, shp d.c, .lst [.ref n, .ref (n + 1), .ref (n + 2)]]
def DkAt (S : Store) (k : Nat) (d : Dk) : Prop := ∃ i j l, S[k]? = some (.lst [.ref i, .ref j, .ref l]) ∧ S[i]? = some (shp d.a) ∧ S[j]? = some (shp d.b) ∧ S[l]? = some (shp d.c)
theorem DkAt.app {S G : Store} {k : Nat} {d : Dk} (h : DkAt S k d) : DkAt (S ++ G) k d := by
  obtain ⟨i, j, l, h1, h2, h3, h4⟩ := h
  have ap : ∀ {m : Nat} {c : Cell}, S[m]? = some c → (S ++ G)[m]? = some c := fun {m c} h => by rw [List.getElem?_append_left (List.getElem?_eq_some_iff.mp h).1]; exact h
  exact ⟨i, j, l, ap h1, ap h2, ap h3, ap h4⟩
/-- a new disk is told -/
theorem ret_disk {S S' : Store} {d : Dk} {k i j l : Nat} {Q : PQ} (hS : ClS S) (h0 : ∀ i, i < S.length → S'[i]? = S[i]?) (hk : S'[k]? = some (.lst [.ref i, .ref j, .ref l])) (hi : S'[i]? = some (shp d.a)) (hj : S'[j]? = some (shp d.b)) (hl : S'[l]? = some (shp d.c))
    (hnd : [i, j, l, k].Nodup) (hge : ∀ m ∈ [i, j, l, k], S.length ≤ m) (h : Q (.ref (S.length + 3)) (S ++ dkC S.length d)) : RetQ S.length Q (.ref k) S' := by
  refine .inr ⟨_, _, Gc.many (ks := [i, j, l, k]) rfl hS h0 hnd hge rfl ?_ (ren_new (i := 3) rfl), h⟩
  intro x m c h1 h2
  match x, h1, h2 with
  | 0, h1, h2 => simp [dkC] at h1 h2; subst h1 h2; exact ⟨_, hi, renC_old (cls_map ePl _ _)⟩
  | 1, h1, h2 => simp [dkC] at h1 h2; subst h1 h2; exact ⟨_, hj, renC_old (cls_map ePl _ _)⟩
  | 2, h1, h2 => simp [dkC] at h1 h2; subst h1 h2; exact ⟨_, hl, renC_old (cls_map ePl _ _)⟩
  | 3, h1, h2 =>
    simp [dkC] at h1 h2; subst h1 h2
    exact ⟨_, hk, _, rfl, Rens.cons (ren_new (i := 0) rfl) (Rens.cons (ren_new (i := 1) rfl) (Rens.cons (ren_new (i := 2) rfl) Rens.nil))⟩
  | x + 4, h1, h2 => simp at h1
theorem dk0 {S G : Store} {d : Dk} : (S ++ (dkC S.length d ++ G))[S.length]? = some (shp d.a) := by rw [List.getElem?_append_right (by omega)]; simp [dkC]
theorem dk1 {S G : Store} {d : Dk} : (S ++ (dkC S.length d ++ G))[S.length + 1]? = some (shp d.b) := by rw [List.getElem?_append_right (by omega), show S.length + 1 - S.length = 1 by omega]; simp [dkC]
theorem dk2 {S G : Store} {d : Dk} : (S ++ (dkC S.length d ++ G))[S.length + 2]? = some (shp d.c) := by rw [List.getElem?_append_right (by omega), show S.length + 2 - S.length = 2 by omega]; simp [dkC]
theorem dk3 {S G : Store} {d : Dk} : (S ++ (dkC S.length d ++ G))[S.length + 3]? = some (.lst [.ref S.length, .ref (S.length + 1), .ref (S.length + 2)]) := by rw [List.getElem?_append_right (by omega), show S.length + 3 - S.length = 3 by omega]; simp [dkC]
theorem dkAt_new {S G : Store} {d : Dk} : DkAt (S ++ (dkC S.length d ++ G)) (S.length + 3) d := ⟨_, _, _, dk3, dk0, dk1, dk2⟩
/-! a write of a disk: area, place, thing (the sign is a pair, like a thing) -/
abbrev DW := Int × Int × Pl
def dwE (w : DW) : D := .tup [.int w.1, .int w.2.1, ePl.enc w.2.2]
abbrev dwp (ws : List DW) : Cell := .lst (ws.map dwE)
def OkD (d : Dk) (w : DW) : Prop := 0 ≤ w.2.1 ∧ ((w.1 = 0 ∧ w.2.1 < d.a.length) ∨ (w.1 = 1 ∧ w.2.1 < d.b.length) ∨ (w.1 = 2 ∧ w.2.1 < d.c.length))
def Dk.put (d : Dk) (w : DW) : Dk := if w.1 = 0 then { d with a := d.a.set w.2.1.toNat w.2.2 } else if w.1 = 1 then { d with b := d.b.set w.2.1.toNat w.2.2 } else { d with c := d.c.set w.2.1.toNat w.2.2 }
def Dk.puts (d : Dk) (ws : List DW) : Dk := ws.foldl Dk.put d
theorem put_a (d : Dk) (w : DW) : (d.put w).a.length = d.a.length := by unfold Dk.put; split <;> (try split) <;> simp
theorem put_b (d : Dk) (w : DW) : (d.put w).b.length = d.b.length := by unfold Dk.put; split <;> (try split) <;> simp
theorem put_c (d : Dk) (w : DW) : (d.put w).c.length = d.c.length := by unfold Dk.put; split <;> (try split) <;> simp
theorem puts_ok : ∀ (ws : List DW) (d : Dk) (w : DW), OkD (d.puts ws) w ↔ OkD d w
  | [], d, w => Iff.rfl
  | v :: ws, d, w => by
    show OkD ((d.put v).puts ws) w ↔ _
    rw [puts_ok ws (d.put v) w]
    unfold OkD
    rw [put_a, put_b, put_c]
theorem puts_next {d : Dk} {ws : List DW} {i : Nat} (h : i < ws.length) : d.puts (ws.take (i + 1)) = (d.puts (ws.take i)).put ws[i] := by
  unfold Dk.puts
  rw [take_next h, List.foldl_append]; rfl
def sp_written : SPf
  | [.ref n, .ref m], S, Q, _ => ∃ d ws, DkAt S n d ∧ S[m]? = some (dwp ws) ∧ (∀ w ∈ ws, OkD d w) ∧ Q (.ref (S.length + 3)) (S ++ dkC S.length (d.puts ws))
  | _, _, _, _ => False
theorem len_written : ∀ ds S Q E, sp_written ds S Q E → ds.length = 2 := by
  intro ds S Q E h; unfold sp_written at h; split at h <;> first | rfl | exact h.elim
abbrev n_written : List Str := ["disk", "writes", "slabs", "part", "area", "place", "thing"]
def w_written : WS :=
  wsSeq (wsSet 2 (wComp [3] (tN 3) (wVar 0) (wYes) (wB bList [wVar 3]))) (wsSeq (wsFor (tT [4, 5, 6]) (wVar 1) (wsSub (wOp pIx (wVar 2) (wVar 4)) (wVar 5) (wVar 6))) (wsRet (wVar 2)))


theorem set_dk {S G : Store} {d : Dk} {w : DW} {x : Nat} {e : List Pl} (h : (w.1 = 0 ∧ x = S.length ∧ e = d.a.set w.2.1.toNat w.2.2) ∨ (w.1 = 1 ∧ x = S.length + 1 ∧ e = d.b.set w.2.1.toNat w.2.2) ∨ (w.1 = 2 ∧ x = S.length + 2 ∧ e = d.c.set w.2.1.toNat w.2.2)) :
    (S ++ (dkC S.length d ++ G)).set x (shp e) = S ++ (dkC S.length (d.put w) ++ G) := by
  rcases h with ⟨h1, rfl, rfl⟩ | ⟨h1, rfl, rfl⟩ | ⟨h1, rfl, rfl⟩
  · rw [List.set_append_right _ _ (by omega), show S.length - S.length = 0 by omega]; simp [dkC, Dk.put, h1]
  · rw [List.set_append_right _ _ (by omega), show S.length + 1 - S.length = 1 by omega]; simp [dkC, Dk.put, h1]
  · rw [List.set_append_right _ _ (by omega), show S.length + 2 - S.length = 2 by omega]; simp [dkC, Dk.put, h1]
/-- a copy of a disk, part by part -/
theorem comp_copy {n i : Nat} {d : Dk} {x y z : Nat} {ρ : DEnv} {S : Store} {Q : PQ} (h1 : S[n]? = some (.lst [.ref x, .ref y, .ref z])) (ha : S[x]? = some (shp d.a)) (hb : S[y]? = some (shp d.b)) (hc : S[z]? = some (shp d.c)) (hi : i < ρ.length)
    (h : Q (.ref (S.length + 3)) (S ++ dkC S.length d)) : compG (atL n [.ref x, .ref y, .ref z]) (tN i) wYes (wB bList [wVar i]) [.ref x, .ref y, .ref z] [] ρ S Q := by
  have hv : ∀ e, (ρ.set i e)[i]? = some e := fun e => by simp [hi]
  have ap : ∀ {m : Nat} {c : Cell} (G : Store), S[m]? = some c → (S ++ G)[m]? = some c := fun {m c} G h => by rw [List.getElem?_append_left (List.getElem?_eq_some_iff.mp h).1]; exact h
  simp [compG, hv, atL, h1, ha, ap _ h1, ap _ hb, ap _ hc]
  exact h
theorem ix_three {x y z : D} : (atI [x, y, z] 0 = some x) ∧ (atI [x, y, z] 1 = some y) ∧ (atI [x, y, z] 2 = some z) := ⟨rfl, rfl, rfl⟩
theorem dk0n {S : Store} {d : Dk} : (S ++ dkC S.length d)[S.length]? = some (shp d.a) := by simpa using dk0 (S := S) (d := d) (G := [])
theorem dk1n {S : Store} {d : Dk} : (S ++ dkC S.length d)[S.length + 1]? = some (shp d.b) := by simpa using dk1 (S := S) (d := d) (G := [])
theorem dk2n {S : Store} {d : Dk} : (S ++ dkC S.length d)[S.length + 2]? = some (shp d.c) := by simpa using dk2 (S := S) (d := d) (G := [])
theorem dk3n {S : Store} {d : Dk} : (S ++ dkC S.length d)[S.length + 3]? = some (.lst [.ref S.length, .ref (S.length + 1), .ref (S.length + 2)]) := by
  have := dk3 (S := S) (d := d) (G := [])
  rwa [List.append_nil] at this
theorem set_dkn {S : Store} {d : Dk} {w : DW} {x : Nat} {e : List Pl} (h : (w.1 = 0 ∧ x = S.length ∧ e = d.a.set w.2.1.toNat w.2.2) ∨ (w.1 = 1 ∧ x = S.length + 1 ∧ e = d.b.set w.2.1.toNat w.2.2) ∨ (w.1 = 2 ∧ x = S.length + 2 ∧ e = d.c.set w.2.1.toNat w.2.2)) :
    (S ++ dkC S.length d).set x (shp e) = S ++ dkC S.length (d.put w) := by
  have := set_dk (G := []) h
  rwa [List.append_nil, List.append_nil] at this
theorem ob_written : Ob n_written sp_written w_written := by
  intro ds S Q E hS hd h
  unfold sp_written at h
  split at h
  · rename_i n m
    obtain ⟨d, ws, ⟨x, y, z, h1, ha, hb, hc⟩, hm, hok, hq⟩ := h
    simp [w_written, startD, h1, atL]
    refine comp_copy h1 ha hb hc (by simp) ?_
    refine ⟨_, app_get hm, loop_list (S := S ++ dkC S.length d) (fun i ρ S' => S' = S ++ dkC S.length (d.puts (ws.take i)) ∧ ∃ a b c, ρ = [some (.ref n), some (.ref m), some (.ref (S.length + 3)), none, a, b, c]) ⟨rfl, none, none, none, rfl⟩ (fun i ρ S' h => by rw [h.1]; exact app_get hm) ?_ ?_⟩
    · rintro i x ρ S' N hx ⟨rfl, a, b, c, rfl⟩ hN
      have hi : i < ws.length := by simpa using (List.getElem?_eq_some_iff.mp hx).1
      rw [List.getElem?_map, List.getElem?_eq_getElem hi] at hx
      simp only [Option.map_some, Option.some.injEq] at hx
      subst hx
      obtain ⟨w0, w1⟩ := (puts_ok (ws.take i) d ws[i]).mpr (hok _ (List.getElem_mem _))
      have fin := hN _ _ ⟨rfl, some (.int ws[i].1), some (.int ws[i].2.1), some (ePl.enc ws[i].2.2), rfl⟩
      rw [puts_next hi] at fin
      generalize ws[i] = w at *
      generalize d.puts (ws.take i) = e at *
      simp [dwE, setAll]
      rcases w1 with ⟨w1, w2⟩ | ⟨w1, w2⟩ | ⟨w1, w2⟩
      · rw [w1] at fin ⊢
        refine ⟨_, dk3n, _, ix_three.1, _, rfl, _, dk0n, _, ixN_ok w0 (by simpa using w2), ?_⟩
        rw [map_set, set_dkn (w := w) (.inl ⟨w1, rfl, rfl⟩)]
        exact fin
      · rw [w1] at fin ⊢
        refine ⟨_, dk3n, _, ix_three.2.1, _, rfl, _, dk1n, _, ixN_ok w0 (by simpa using w2), ?_⟩
        rw [map_set, set_dkn (w := w) (.inr (.inl ⟨w1, rfl, rfl⟩))]
        exact fin
      · rw [w1] at fin ⊢
        refine ⟨_, dk3n, _, ix_three.2.2, _, rfl, _, dk2n, _, ixN_ok w0 (by simpa using w2), ?_⟩
        rw [map_set, set_dkn (w := w) (.inr (.inr ⟨w1, rfl, rfl⟩))]
        exact fin
    · rintro ρ S' ⟨rfl, a, b, c, rfl⟩
      simp
      exact ret_any hq
  · exact h.elim
def sp_law_area : SPf
  | [.int _, .int _, .int z, .ref n], S, Q, _ => ∃ ts, S[n]? = some (thp ts) ∧ (0 ≤ z ∧ z ≤ 1000) ∧ ∀ ps : List Pl, ps.length = z.toNat → Q (.ref S.length) (S ++ [shp ps])
  | _, _, _, _ => False
def sp_law_disk : SPf
  | [.tup [.int t, .int w, .int s], .int h, .int wh, .ref n, .int _], S, Q, _ => ∃ ps, S[n]? = some (shp ps) ∧ Good t w s ∧ (ps.length : Int) ≤ 2 ^ t.toNat * w ∧ (wh = 0 ∨ wh = 1) ∧
      ∀ a b : List Pl, (a.length : Int) = 2 ^ t.toNat * w → (b.length : Int) = 2 ^ t.toNat * w → (wh = 0 → a.take ps.length = ps) → (wh = 1 → b.take ps.length = ps) → Q (.ref (S.length + 3)) (S ++ dkC S.length ⟨a, b, [some (wh, h)]⟩)
  | _, _, _, _ => False
theorem len_law_area : ∀ ds S Q E, sp_law_area ds S Q E → ds.length = 4 := by
  intro ds S Q E h; unfold sp_law_area at h; split at h <;> first | rfl | exact h.elim
theorem len_law_disk : ∀ ds S Q E, sp_law_disk ds S Q E → ds.length = 5 := by
  intro ds S Q E h; unfold sp_law_disk at h; split at h <;> first | rfl | exact h.elim
abbrev n_law_area : List Str := ["cell", "k", "size", "things", "area", "place", "number", "key"]
def w_law_area : WS :=
  wsSeq (wsSet 4 (wLst [])) (wsSeq (wsForR1 (tN 5) (wVar 2) (wsSeq (wsSet 6 (wCall sp_law_mixed [wVar 0, wOp pAdd (wOp pAdd (wOp pMul (ret (.int 2)) (wVar 5)) (wVar 1)) (ret (.int 500))] [])) (wsSeq (wsSet 7 (wOp pSub (wOp pMod (wOp pDiv (wVar 6) (ret (.int 3))) (ret (.int 1000))) (ret (.int 500)))) (wsSeq (wsIf (wAnd (wOp pNe (wVar 3) (wLst [])) (wOp pEq (wOp pMod (wOp pDiv (wVar 6) (ret (.int 7))) (ret (.int 2))) (ret (.int 0)))) (wsSet 7 (wOp pSub (wOp pAdd (wOp pIx (wOp pIx (wVar 3) (wOp pMod (wOp pDiv (wVar 6) (ret (.int 14))) (wB bLen [wVar 3]))) (ret (.int 0))) (wOp pMod (wOp pDiv (wVar 6) (ret (.int 5))) (ret (.int 3)))) (ret (.int 1)))) (wsNil)) (wsExpr (wM "list" mAppend (wVar 4) [wOp pIx (wLst [wTup [], wTup [wVar 7, wOp pMod (wOp pDiv (wVar 6) (ret (.int 11))) (wOp pPow (ret (.int 10)) (ret (.int 6)))]]) (wB bInt [wOp pGt (wOp pMod (wVar 6) (ret (.int 3))) (ret (.int 0))])])))))) (wsRet (wVar 4)))

abbrev n_law_disk : List Str := ["bounds", "height", "which", "shelf", "cell", "things", "thing", "areas", "k"]
def w_law_disk : WS :=
  wsSeq (wsSet 5 (wComp [6] (tN 6) (wVar 3) (wOp pNe (wVar 6) (wTup [])) (wVar 6))) (wsSeq (wsSet 7 (wCompR1 [8] (tN 8) (ret (.int 2)) (wYes) (wCall sp_law_area [wVar 4, wVar 8, wOp pMul (wCall sp_law_two [wOp pIx (wVar 0) (ret (.int 0))] []) (wOp pIx (wVar 0) (ret (.int 1))), wVar 5] []))) (wsSeq (wsSub (wVar 7) (wVar 2) (wOp pAdd (wVar 3) (wSl (wOp pIx (wVar 7) (wVar 2)) (some (wB bLen [wVar 3])) none))) (wsRet (wLst [wOp pIx (wVar 7) (ret (.int 0)), wOp pIx (wVar 7) (ret (.int 1)), wLst [wTup [wVar 2, wVar 1]]]))))

theorem ob_law_area : Ob n_law_area sp_law_area w_law_area := by
  intro ds S Q E hS hd h
  unfold sp_law_area at h
  split at h
  · rename_i c k z n
    obtain ⟨ts, hn, ⟨hz0, hz1⟩, hq⟩ := h
    have hz4 : (2000 : Nat) ≤ sizeLine := by decide
    simp [w_law_area, startD]
    refine ⟨by omega, by omega, ?_⟩
    refine loop_range (S := S ++ [shp []]) (fun i ρ S' => ∃ ps G x y u, S' = S ++ shp ps :: G ∧ ρ = [some (.int c), some (.int k), some (.int z), some (.ref n), some (.ref S.length), x, y, u] ∧ ps.length = i) ⟨[], [], none, none, none, rfl, rfl, rfl⟩ ?_ ?_
    · rintro i ρ S' N hi ⟨ps, G, x, y, u, rfl, rfl, hl⟩ hN
      have fin : ∀ (p : Pl) G2 x y u, N [some (.int c), some (.int k), some (.int z), some (.ref n), some (.ref S.length), x, y, u] (S ++ Cell.lst (ps.map ePl.enc ++ [ePl.enc p]) :: G2) := fun p G2 x y u =>
        hN _ _ ⟨ps ++ [p], G2, x, y, u, by simp, rfl, by simp [hl]⟩
      simp [sp_law_mixed]
      intro m m0 m1
      refine ne_list eTh (xs := ts) (ys := []) (app_get hn) (by simp) ?_
      have last : ∀ (kk : Int) (G2 : Store), isT "list" (S ++ shp ps :: G2) (.ref S.length) ∧ ∃ x, atI [D.tup [], D.tup [.int kk, .int (m / 11 % 1000000)]] (if 0 < m % 3 then 1 else 0) = some x ∧ ps.length < sizeLine ∧
          N [some (.int c), some (.int k), some (.int z), some (.ref n), some (.ref S.length), some (.int i), some (.int m), some (.int kk)] (S ++ Cell.lst (ps.map ePl.enc ++ [x]) :: (G2 ++ [Cell.lst [D.tup [], D.tup [.int kk, .int (m / 11 % 1000000)]]])) := fun kk G2 => by
        refine ⟨isT_at, ?_⟩
        split
        · exact ⟨_, jx1, by omega, fin (some (kk, m / 11 % 1000000)) _ _ _ _⟩
        · exact ⟨_, jx0, by omega, fin none _ _ _ _⟩
      have last2 : ∀ kk : Int, _ := fun kk => last kk (G ++ [Cell.lst []])
      simp only [List.append_assoc, List.cons_append, List.nil_append] at last2
      simp
      split
      · exact last2 _
      · rename_i hne
        by_cases h7 : m / 7 % 2 = 0
        · refine .inr ⟨h7, ?_⟩
          have hpos : 0 < ts.length := List.length_pos_iff.mpr hne
          have n0 := Int.emod_nonneg (m / 14) (show (ts.length : Int) ≠ 0 by omega)
          have n1 := Int.emod_lt_of_pos (m / 14) (show (0 : Int) < ts.length by omega)
          have e := atI_lt (xs := ts.map eTh.enc) n0 (by simpa using n1)
          rw [List.getElem_map, enc_th] at e
          refine ⟨_, app_get hn, by simpa using hpos, _, app_get hn, _, by simpa using e, ?_⟩
          simp [jx0]
          exact last2 _
        · exact .inl ⟨h7, last2 _⟩
    · rintro ρ S' ⟨ps, G, x, y, u, rfl, rfl, hl⟩
      simp
      exact ret_list hS (fun i hi => by rw [List.getElem?_append_left hi]) get_at (Nat.le_refl _) (cls_map ePl _ _) (hq ps hl)
  · exact h.elim
theorem cutD_drop {α : Type} (f : α → D) (xs : List α) {a : Int} (ha : 0 ≤ a) : cutD (xs.map f) (some a) none = (xs.drop a.toNat).map f := by
  unfold cutD
  rw [HT.sIx_none, show a = ((a.toNat : Nat) : Int) by omega, HT.sIx_nat, Int.toNat_natCast]
  rw [List.take_of_length_le (by simp), ← List.map_drop]
  congr 1
  by_cases h : a.toNat ≤ xs.length
  · rw [List.length_map, Nat.min_eq_left h]
  · rw [List.length_map, Nat.min_eq_right (by omega), List.drop_of_length_le (Nat.le_refl _), List.drop_of_length_le (by omega)]
theorem at1 {S : Store} {a b : Cell} {G : Store} : (S ++ a :: b :: G)[S.length + 1]? = some b := by rw [List.getElem?_append_right (by omega), show S.length + 1 - S.length = 1 by omega]; rfl
theorem atn {S G : Store} (k : Nat) : (S ++ G)[S.length + k]? = G[k]? := by rw [List.getElem?_append_right (by omega), show S.length + k - S.length = k by omega]
theorem setn {S G : Store} (k : Nat) {c : Cell} : (S ++ G).set (S.length + k) c = S ++ G.set k c := by rw [List.set_append_right _ _ (by omega), show S.length + k - S.length = k by omega]
theorem ob_law_disk : Ob n_law_disk sp_law_disk w_law_disk := by
  intro ds S Q E hS hd h
  unfold sp_law_disk at h
  split at h
  · rename_i t w s h1 wh n c
    obtain ⟨ps, hn, g, hpl, hwh, hq⟩ := h
    obtain ⟨g1, g2, g3, g4, g5, g6⟩ := g
    have hz := size_le (h := t.toNat) (by omega) g3 (show w ≤ 1000 by omega)
    have hp16 : (2 : Int) ^ t.toNat * w ≤ 320 := by
      have : t = 0 ∨ t = 1 ∨ t = 2 ∨ t = 3 ∨ t = 4 := by omega
      rcases this with rfl | rfl | rfl | rfl | rfl <;> simp <;> omega
    have hz4 : (2000 : Nat) ≤ sizeLine := by decide
    simp [w_law_disk, startD, hn, atL]
    refine comp_full hn (by simp) ?_
    rw [rangeD_map]
    simp [List.range, List.range.loop, compG, sp_law_two, ix0, ix1, sp_law_area]
    refine ⟨by omega, mulR (by omega), ⟨_, rfl⟩, by omega, fun a ha => ⟨by omega, mulR (by omega), ⟨_, rfl⟩, by omega, fun b hb => ?_⟩⟩
    rcases hwh with rfl | rfl
    · refine ⟨_, jx0, _, app_get hn, ?_⟩
      simp [at1, cutD_drop]
      refine ⟨_, app_get hn, by simp; omega, [.ref (S.length + 1), .ref (S.length + 2)], (List.getElem?_eq_some_iff.mp (atn (S := S) 3)).2, 0, rfl, .ref (S.length + 5), rfl, .ref (S.length + 2), rfl, ?_⟩
      rw [setn 3]
      have get : ∀ k : Nat, ∀ G : Store, ((S ++ G) ++ [Cell.lst [D.tup [D.int 0, D.int h1]], Cell.lst [.ref (S.length + 5), .ref (S.length + 2), D.ref (S.length + 6)]])[S.length + k]? = (G ++ [Cell.lst [D.tup [D.int 0, D.int h1]], Cell.lst [.ref (S.length + 5), .ref (S.length + 2), D.ref (S.length + 6)]])[k]? := fun k G => by rw [List.append_assoc, atn]
      refine ret_disk (d := ⟨ps ++ a.drop ps.length, b, [some (0, h1)]⟩) (k := S.length + 7) (i := S.length + 5) (j := S.length + 2) (l := S.length + 6) hS (fun i hi => by rw [List.append_assoc, List.getElem?_append_left hi]) (by rw [get 7]; rfl) (by rw [get 5]; simp) (by rw [get 2]; simp) (by rw [get 6]; rfl) (by simp) (by simp) ?_
      refine hq _ _ ?_ ?_ ?_ ?_
      · first | omega | (simp; omega)
      · first | omega | (simp; omega)
      · simp
      · simp
    · refine ⟨_, jx1, _, app_get hn, ?_⟩
      simp [cutD_drop]
      refine ⟨_, app_get hn, by simp; omega, [.ref (S.length + 1), .ref (S.length + 2)], (List.getElem?_eq_some_iff.mp (atn (S := S) 3)).2, 1, rfl, .ref (S.length + 1), rfl, .ref (S.length + 5), rfl, ?_⟩
      rw [setn 3]
      have get : ∀ k : Nat, ∀ G : Store, ((S ++ G) ++ [Cell.lst [D.tup [D.int 1, D.int h1]], Cell.lst [.ref (S.length + 1), .ref (S.length + 5), D.ref (S.length + 6)]])[S.length + k]? = (G ++ [Cell.lst [D.tup [D.int 1, D.int h1]], Cell.lst [.ref (S.length + 1), .ref (S.length + 5), D.ref (S.length + 6)]])[k]? := fun k G => by rw [List.append_assoc, atn]
      refine ret_disk (d := ⟨a, ps ++ b.drop ps.length, [some (1, h1)]⟩) (k := S.length + 7) (i := S.length + 1) (j := S.length + 5) (l := S.length + 6) hS (fun i hi => by rw [List.append_assoc, List.getElem?_append_left hi]) (by rw [get 7]; rfl) (by rw [get 1]; simp) (by rw [get 5]; simp) (by rw [get 6]; rfl) (by simp) (by simp) ?_
      refine hq _ _ ?_ ?_ ?_ ?_
      · first | omega | (simp; omega)
      · first | omega | (simp; omega)
      · simp
      · simp
  · exact h.elim
def sp_blank_disk : SPf
  | [.tup [.int t, .int w, .int s]], S, Q, _ => (0 ≤ t ∧ t ≤ 10 ∧ 1 ≤ w ∧ w ≤ 90) ∧ Q (.ref (S.length + 3)) (S ++ dkC S.length ⟨List.replicate (2 ^ t.toNat * w).toNat none, List.replicate (2 ^ t.toNat * w).toNat none, [some (0, 0)]⟩)
  | _, _, _, _ => False
def sp_shelf_on : SPf
  | [.tup [.int _, .int w, .int _], .ref n], S, Q, _ => ∃ d wh h, DkAt S n d ∧ d.c = [some (wh, h)] ∧ (wh = 0 ∨ wh = 1) ∧ (0 ≤ h ∧ h ≤ 60 ∧ 1 ≤ w) ∧ Q (.ref S.length) (S ++ [shp ((if wh = 0 then d.a else d.b).take (2 ^ h.toNat * w).toNat)])
  | _, _, _, _ => False
theorem len_blank_disk : ∀ ds S Q E, sp_blank_disk ds S Q E → ds.length = 1 := by
  intro ds S Q E h; unfold sp_blank_disk at h; split at h <;> first | rfl | exact h.elim
theorem len_shelf_on : ∀ ds S Q E, sp_shelf_on ds S Q E → ds.length = 2 := by
  intro ds S Q E h; unfold sp_shelf_on at h; split at h <;> first | rfl | exact h.elim
abbrev n_blank_disk : List Str := ["bounds", "size", "place"]
def w_blank_disk : WS :=
  wsSeq (wsSet 1 (wCall sp_places_of [wVar 0, wOp pIx (wVar 0) (ret (.int 0))] [])) (wsRet (wLst [wCompR1 [2] (tN 2) (wVar 1) (wYes) (wTup []), wCompR1 [2] (tN 2) (wVar 1) (wYes) (wTup []), wLst [wTup [ret (.int 0), ret (.int 0)]]]))

abbrev n_shelf_on : List Str := ["bounds", "disk", "which", "height"]
def w_shelf_on : WS :=
  wsSeq (wsAsg (tT [2, 3]) (wOp pIx (wOp pIx (wVar 1) (ret (.int 2))) (ret (.int 0)))) (wsRet (wSl (wOp pIx (wVar 1) (wVar 2)) none (some (wCall sp_places_of [wVar 0, wVar 3] []))))

theorem cutD_takeE {α : Type} (f : α → D) (xs : List α) {b : Int} (hb : 0 ≤ b) : cutD (xs.map f) none (some b) = (xs.take b.toNat).map f := by
  have h := cutD_nat f xs (a := 0) (b := b) (by decide) hb
  simp only [Int.toNat_zero, List.drop_zero] at h
  rw [← h]
  unfold cutD
  rw [HT.sIx_none, show (0 : Int) = ((0 : Nat) : Int) from rfl, HT.sIx_nat]
  simp
theorem ob_blank_disk : Ob n_blank_disk sp_blank_disk w_blank_disk := by
  intro ds S Q E hS hd h
  unfold sp_blank_disk at h
  split at h
  · rename_i t w s
    obtain ⟨⟨h1, h2, h3, h4⟩, hq⟩ := h
    have hz := size_le (h := t.toNat) (by omega) h3 (show w ≤ 1000 by omega)
    have hp10 := pow10 t.toNat (by omega)
    have hz2 : (2 : Int) ^ t.toNat * w ≤ 1024 * 90 := Int.mul_le_mul hp10.2 h4 (by omega) (by omega)
    have e0 : ∀ k, (List.range k).map (fun _ : Nat => D.tup []) = (List.replicate k (none : Pl)).map ePl.enc := fun k => by
      simp [List.map_const']
    simp [w_blank_disk, startD, sp_places_of, ix0]
    refine ⟨by omega, by omega, by omega, comp_rangeY (fun _ => .tup []) (fun k hk N hN => by simpa using hN) ?_⟩
    rw [e0]
    refine ⟨by omega, by omega, comp_rangeY (fun _ => .tup []) (fun k hk N hN => by simpa using hN) ?_⟩
    rw [e0]
    refine ret_any ?_
    simpa [dkC, shp] using hq
  · exact h.elim
theorem jx00 {a : D} : atI [a] 0 = some a := rfl
theorem ob_shelf_on : Ob n_shelf_on sp_shelf_on w_shelf_on := by
  intro ds S Q E hS hd h
  unfold sp_shelf_on at h
  split at h
  · rename_i t w s n
    obtain ⟨d, wh, h1, ⟨x, y, z, p1, p2, p3, p4⟩, hc, hwh, ⟨h2, h3, h4⟩, hq⟩ := h
    rw [hc] at p4
    simp [w_shelf_on, startD, p1, sp_places_of]
    refine ⟨_, ix_three.2.2, ?_⟩
    simp [p4, jx00, setAll, p1]
    have two := two_pow_le h1.toNat (by omega)
    have hsz : 0 ≤ 2 ^ h1.toNat * w := Int.mul_nonneg (by omega) (by omega)
    rcases hwh with rfl | rfl
    · refine ⟨_, ix_three.1, by omega, ?_⟩
      simp [p2]
      rw [cutD_takeE _ _ hsz]
      exact ret_any (by simpa [shp] using hq)
    · refine ⟨_, ix_three.2.1, by omega, ?_⟩
      simp [p3]
      rw [cutD_takeE _ _ hsz]
      exact ret_any (by simpa [shp] using hq)
  · exact h.elim
/-- so many things on a straight shelf of h -/
def sp_law_filled : SPf
  | [.tup [.int t, .int w, .int s], .int h, .int _, .int m], S, Q, _ => (0 ≤ h ∧ h ≤ 4 ∧ 1 ≤ w ∧ w ≤ 20) ∧ ∀ ps : List Pl, ps.length = 2 ^ h.toNat * w.toNat → Straight ps → ((things ps).length : Int) = min (max 0 m) (2 ^ h.toNat * w) → Q (.ref S.length) (S ++ [shp ps])
  | _, _, _, _ => False
theorem len_law_filled : ∀ ds S Q E, sp_law_filled ds S Q E → ds.length = 4 := by
  intro ds S Q E h; unfold sp_law_filled at h; split at h <;> first | rfl | exact h.elim
abbrev n_law_filled : List Str := ["bounds", "height", "cell", "many", "size", "left", "shelf", "place", "k", "amount"]
def w_law_filled_r1 : WS :=
  wsSeq (wsSet 6 (wCompR1 [7] (tN 7) (wVar 4) (wYes) (wTup []))) (wsSeq (wsForR1 (tN 8) (wB bLen [wVar 5]) (wsSeq (wsSet 9 (wOp pSub (wOp pMod (wCall sp_law_mixed [wVar 2, wVar 8] []) (wOp pIx (wLst [wOp pPow (ret (.int 10)) (ret (.int 9)), ret (.int 3)]) (wOp pMod (wVar 8) (ret (.int 2))))) (ret (.int 1)))) (wsSub (wVar 6) (wOp pIx (wVar 5) (wVar 8)) (wTup [wOp pSub (wOp pMul (wOp pMul (ret (.int 3)) (wVar 8)) (wOp pIx (wLst [ret (.int 1), wOp pPow (ret (.int 10)) (ret (.int 40))]) (wOp pMod (wVar 2) (ret (.int 2))))) (wOp pMod (wVar 2) (wOp pPow (ret (.int 10)) (ret (.int 57)))), wVar 9])))) (wsRet (wVar 6)))
def w_law_filled : WS :=
  wsSeq (wsSet 4 (wOp pMul (wCall sp_law_two [wVar 1] []) (wOp pIx (wVar 0) (ret (.int 1))))) (wsSeq (wsSet 5 (wLRange (wVar 4))) (wsSeq (wsWhile (wOp pGt (wB bLen [wVar 5]) (wB bMax [ret (.int 0), wVar 3])) (wsExpr (wM "list" mPopAt (wVar 5) [wOp pMod (wOp pDiv (wCall sp_law_mixed [wVar 2, wB bLen [wVar 5]] []) (ret (.int 7))) (wB bLen [wVar 5])]))) (w_law_filled_r1)))

theorem seqIxD {i : Int} {n : Nat} (h0 : 0 ≤ i) (h1 : i < n) : seqIndex? i n = some i.toNat := by
  unfold seqIndex?
  simp only [show ¬ i < 0 by omega, if_false, h0, h1, decide_true, Bool.and_self, if_true]
theorem at1F {S : Store} {a b : Cell} {G : Store} : (S ++ a :: b :: G)[S.length + 1]? = some b := at1
theorem on_none (n : Nat) : On [] (List.replicate n (none : Pl)) := ⟨fun c hc => by simp at hc, fun x hx _ => by rw [List.getElem?_replicate]; simp at hx; simp [hx], List.Pairwise.nil⟩
theorem ob_law_filled : Ob n_law_filled sp_law_filled w_law_filled := by
  intro ds S Q E hS hd h
  unfold sp_law_filled at h
  split at h
  · rename_i t w s h c m
    obtain ⟨⟨h0, h1, h2, h3⟩, hq⟩ := h
    have hsz := size_le (h := h.toNat) (by omega) h2 (show w ≤ 1000 by omega)
    have hp10 := pow10 h.toNat (by omega)
    have hz2 : (2 : Int) ^ h.toNat * w ≤ 1024 * 20 := Int.mul_le_mul hp10.2 h3 (by omega) (by omega)
    have hz4 : (100000 : Nat) ≤ sizeLine := by decide
    have hlen : (2 ^ h.toNat * w.toNat : Nat) = (2 ^ h.toNat * w).toNat := by
      have : ((2 ^ h.toNat * w.toNat : Nat) : Int) = 2 ^ h.toNat * w := by
        rw [Int.natCast_mul, Int.toNat_of_nonneg (by omega)]; simp
      omega
    simp [w_law_filled, startD, sp_law_two, ix1]
    refine ⟨by omega, mulL (by omega), by omega, by omega, ?_⟩
    generalize hz : (2 : Int) ^ h.toNat * w = z at *
    refine loop_while (fun k ρ S' => ∃ al : List Nat, k = al.length ∧ min (max 0 m) z ≤ al.length ∧ (al.length : Int) ≤ z ∧ al.Pairwise (· < ·) ∧ (∀ x ∈ al, (x : Int) < z) ∧ S' = S ++ [.lst (al.map fun i : Nat => D.int i)] ∧ ρ = [some (bnd t w s), some (.int h), some (.int c), some (.int m), some (.int z), some (.ref S.length), none, none, none, none]) z.toNat ?_ ?_
    · refine ⟨List.range z.toNat, by simp, by simp; omega, by simp; omega, List.pairwise_lt_range, fun x hx => by simp at hx; omega, ?_, rfl⟩
      rw [rangeD_map]; simp
    · rintro k ρ S' N ⟨al, rfl, hm, hmz, hr, hb, rfl, rfl⟩ hN
      simp
      by_cases hlt : (if 0 < m then m else 0) < (al.length : Int)
      · refine .inr ⟨hlt, isT_at, ?_⟩
        simp [sp_law_mixed]
        intro x x0 x1
        have hpos : 0 < al.length := by split at hlt <;> omega
        have n0 := Int.emod_nonneg (x / 7) (show (al.length : Int) ≠ 0 by omega)
        have n1 := Int.emod_lt_of_pos (x / 7) (show (0 : Int) < al.length by omega)
        have hk : (x / 7 % (al.length : Int)).toNat < al.length := by omega
        refine ⟨hpos, by omega, by omega, .int (al[(x / 7 % (al.length : Int)).toNat]'hk), (x / 7 % (al.length : Int)).toNat, seqIxD n0 n1, ⟨_, List.getElem?_eq_getElem hk, rfl⟩, ?_⟩
        refine hN (al.length - 1) _ _ (by omega) ⟨al.eraseIdx (x / 7 % (al.length : Int)).toNat, ?_, ?_, ?_, ?_, ?_, ?_, rfl⟩
        · rw [List.length_eraseIdx, if_pos hk]
        · rw [List.length_eraseIdx, if_pos hk]; split at hlt <;> omega
        · rw [List.length_eraseIdx, if_pos hk]; omega
        · exact hr.sublist (List.eraseIdx_sublist _ _)
        · exact fun y hy => hb y (List.mem_of_mem_eraseIdx hy)
        · rw [List.eraseIdx_eq_take_drop_succ, List.eraseIdx_eq_take_drop_succ, List.map_append, List.map_take, List.map_drop]
      · refine .inl ⟨by omega, ?_⟩
        have hal : (al.length : Int) = min (max 0 m) z := by split at hlt <;> omega
        simp [w_law_filled_r1]
        refine ⟨by omega, by omega, comp_rangeY (fun _ => .tup []) (fun k hk N hN => by simpa using hN) ?_⟩
        rw [show (List.range z.toNat).map (fun _ : Nat => D.tup []) = (List.replicate z.toNat (none : Pl)).map ePl.enc by simp [List.map_const']]
        obtain ⟨dB, hdB, B, rfl, hB⟩ := atI_mem (xs := [D.int 1, D.int 10000000000000000000000000000000000000000]) (i := c % 2) (P := fun d => ∃ t : Int, d = .int t ∧ 1 ≤ t ∧ t ≤ 10000000000000000000000000000000000000000) (by omega) (by simp; omega) (by simp)
        simp
        refine ⟨by omega, ?_⟩
        refine loop_range (fun i ρ S' => ∃ ps G cs k am, S' = S ++ .lst (al.map fun i : Nat => D.int i) :: shp ps :: G ∧ ps.length = z.toNat ∧ On cs ps ∧ cs.length = i ∧ (∀ j (hj : j < cs.length) (hj2 : j < al.length), cs[j].1 = al[j] ∧ cs[j].2.1 = 3 * j * B - c % 1000000000000000000000000000000000000000000000000000000000) ∧
          ρ = [some (bnd t w s), some (.int h), some (.int c), some (.int m), some (.int z), some (.ref S.length), some (.ref (S.length + 1)), none, k, am]) ⟨List.replicate z.toNat none, [], [], none, none, by simp, by simp, on_none _, rfl, fun j hj => by simp at hj, by simp⟩ ?_ ?_
        · rintro i ρ S' N hi ⟨ps, G, cs, k, am, rfl, hpl, hon, hcl, hcs, rfl⟩ hN
          have hil : i < al.length := hi
          have ei : atI (al.map fun i : Nat => D.int i) (i : Nat) = some (.int al[i]) := by rw [atI_lt (by omega) (by simp; omega)]; simp
          have hbi := hb al[i] (List.getElem_mem _)
          have fin : ∀ (am : Int) G2, N [some (bnd t w s), some (.int h), some (.int c), some (.int m), some (.int z), some (.ref S.length), some (.ref (S.length + 1)), none, some (.int i), some (.int am)] (S ++ .lst (al.map fun i : Nat => D.int i) :: shp (ps.set al[i] (some (3 * i * B - c % 1000000000000000000000000000000000000000000000000000000000, am))) :: G2) := fun am G2 => by
            have hlt : ∀ x ∈ cs, x.1 < al[i] := fun x hx => by
              obtain ⟨j, hj, e⟩ := List.mem_iff_getElem.mp hx
              rw [← e, (hcs j hj (by omega)).1]
              exact List.pairwise_iff_getElem.mp hr j i (by omega) hil (by omega)
            refine hN _ _ ⟨_, G2, cs ++ [(al[i], (3 * i * B - c % 1000000000000000000000000000000000000000000000000000000000, am))], _, _, rfl, by simpa using hpl, hon.lay (by omega) (fun x hx => by have := hlt x hx; omega) (Srt.app.mpr ⟨hon.srt, by simp [Srt], fun x hx y hy => by simp at hy; subst hy; exact hlt x hx⟩) (fun x => by simp), by simp [hcl], fun j hj hj2 => ?_, rfl⟩
            by_cases hji : j < cs.length
            · rw [List.getElem_append_left hji]; exact hcs j hji hj2
            · have : j = i := by simp at hj; omega
              subst this
              rw [List.getElem_append_right (by omega)]
              simp
          simp [sp_law_mixed, at1, get_at, ei, hdB]
          intro n n0 n1
          refine atI_mem (P := fun d => _) (by omega) (by simp; omega) ?_
          intro x hx
          obtain ⟨v, rfl, hv⟩ : ∃ v : Int, x = .int v ∧ 0 < v := by
            simp at hx
            rcases hx with rfl | rfl <;> exact ⟨_, rfl, by decide⟩
          simp [at1, get_at, ei, hv]
          refine ⟨mulL (by omega), al[i], by rw [ixN_ok (by omega) (by omega)]; simp, ?_⟩
          rw [show D.tup [D.int (3 * (i : Int) * B - c % 1000000000000000000000000000000000000000000000000000000000), D.int (n % v - 1)] = ePl.enc (some (3 * (i : Int) * B - c % 1000000000000000000000000000000000000000000000000000000000, n % v - 1)) from rfl, map_set]
          exact fin _ _
        · rintro ρ S' ⟨ps, G, cs, k, am, rfl, hpl, hon, hcl, hcs, rfl⟩
          simp
          have hth := hon.things
          refine ret_list hS (fun i hi => by rw [List.getElem?_append_left hi]) at1 (by omega) (cls_map ePl _ _) (hq ps (by omega) ?_ ?_)
          · unfold Straight
            rw [hth, List.pairwise_map, List.pairwise_iff_getElem]
            intro a b ha hb2 hab
            have ca := (hcs a ha (by omega)).2
            have cb := (hcs b hb2 (by omega)).2
            rw [ca, cb]
            have := Int.mul_lt_mul_of_pos_right (show (3 * (a : Int)) < 3 * b by omega) (show 0 < B by omega)
            omega
          · rw [hth, List.length_map, hcl]
            exact hal
  · exact h.elim
def Ris (al : List Int) : Prop := al.Pairwise fun a b => a < b
def sp_law_rows : SPf
  | [.ref n], S, Q, _ => ∃ ps, S[n]? = some (shp ps) ∧ ps.length ≤ 50000 ∧ Q (.ref S.length) (S ++ [thp (rowsT (things ps))])
  | _, _, _, _ => False
def sp_law_sound : SPf
  | [.ref n], S, Q, _ => ∃ ps, S[n]? = some (shp ps) ∧ ps.length ≤ 50000 ∧ Rises (rowsT (things ps)) ∧ (things ps).length ≤ (rowsT (things ps)).length + 1 ∧ Q (.bl true) S
  | _, _, _, _ => False
theorem len_law_rows : ∀ ds S Q E, sp_law_rows ds S Q E → ds.length = 1 := by
  intro ds S Q E h; unfold sp_law_rows at h; split at h <;> first | rfl | exact h.elim
theorem len_law_sound : ∀ ds S Q E, sp_law_sound ds S Q E → ds.length = 1 := by
  intro ds S Q E h; unfold sp_law_sound at h; split at h <;> first | rfl | exact h.elim
abbrev n_law_rows : List Str := ["shelf", "rows", "thing"]
def w_law_rows : WS :=
  wsSeq (wsSet 1 (wLst [])) (wsSeq (wsFor (tN 2) (wVar 0) (wsIf (wAnd (wOp pNe (wVar 2) (wTup [])) (wOr (wOp pEq (wVar 1) (wLst [])) (wOp pNe (wOp pIx (wVar 1) (wOp1 pNeg (ret (.int 1)))) (wVar 2)))) (wsExpr (wM "list" mAppend (wVar 1) [wVar 2])) (wsNil))) (wsRet (wVar 1)))
abbrev n_law_sound : List Str := ["shelf", "rows", "k", "thing"]
def w_law_sound : WS :=
  wsSeq (wsSet 1 (wCall sp_law_rows [wVar 0] [])) (wsSeq (wsForR2 (tN 2) (ret (.int 1)) (wB bLen [wVar 1]) (wsIf (wOp pLe (wOp pIx (wOp pIx (wVar 1) (wVar 2)) (ret (.int 0))) (wOp pIx (wOp pIx (wVar 1) (wOp pSub (wVar 2) (ret (.int 1)))) (ret (.int 0)))) (wsRet (ret (.bl false))) (wsNil))) (wsRet (wOp pLe (wB bLen [wComp [3] (tN 3) (wVar 0) (wOp pNe (wVar 3) (wTup [])) (wVar 3)]) (wOp pAdd (wB bLen [wVar 1]) (ret (.int 1))))))
theorem rowsS_len (acc : List Th) (t : Th) : (rowsS acc t).length ≤ acc.length + 1 := by unfold rowsS; split <;> simp
theorem rowsT_le (ts : List Th) : (rowsT ts).length ≤ ts.length := by
  have : ∀ l acc : List Th, (l.foldl rowsS acc).length ≤ acc.length + l.length := fun l => by
    induction l with
    | nil => intro acc; simp
    | cons t l ih =>
      intro acc
      have h1 := ih (rowsS acc t)
      have h2 := rowsS_len acc t
      simp at h1 ⊢; omega
  simpa [rowsT] using this ts []
theorem th_last {ts : List Th} {t : Th} (h : ts.getLast? = some t) : atI (ts.map eTh.enc) (-1) = some (.tup [.int t.1, .int t.2]) := by
  rw [List.getLast?_eq_getElem?] at h
  obtain ⟨hl, e⟩ := List.getElem?_eq_some_iff.mp h
  rw [atI_last (by simp; omega)]
  simp [e]
theorem ob_law_rows : Ob n_law_rows sp_law_rows w_law_rows := by
  intro ds S Q E hS hd h
  unfold sp_law_rows at h
  split at h
  · rename_i n
    obtain ⟨ps, hn, hl, hq⟩ := h
    have hz4 : (200000 : Nat) ≤ sizeLine := by decide
    simp [w_law_rows, startD]
    refine ⟨_, app_get hn, loop_list (S := S ++ [thp []]) (fun i ρ S' => ∃ G, S' = S ++ thp (rowsT (things (ps.take i))) :: G ∧ ∃ x, ρ = [some (.ref n), some (.ref S.length), x]) ⟨[], rfl, none, rfl⟩ (fun i ρ S' ⟨G, h, _⟩ => by rw [h]; exact app_get hn) ?_ ?_⟩
    · rintro i x ρ S' N hx ⟨G, rfl, y, rfl⟩ hN
      have hi : i < ps.length := by simpa using (List.getElem?_eq_some_iff.mp hx).1
      rw [List.getElem?_map, List.getElem?_eq_getElem hi] at hx
      simp only [Option.map_some, Option.some.injEq] at hx
      subst hx
      have tn := take_next hi
      have fin : ∀ ts' G2 x, ts' = rowsT (things (ps.take (i + 1))) → N [some (.ref n), some (.ref S.length), x] (S ++ thp ts' :: G2) := fun ts' G2 x e => e ▸ hN _ _ ⟨G2, rfl, x, rfl⟩
      cases e2 : ps[i] with
      | none =>
        rw [e2] at tn
        simp
        exact fin _ _ _ (by rw [tn, things_app, things_none, List.append_nil])
      | some t =>
        rw [e2] at tn
        have et : rowsT (things (ps.take (i + 1))) = rowsS (rowsT (things (ps.take i))) t := by rw [tn, things_app, things_some, rowsT_snoc]
        have hlen : (rowsT (things (ps.take i))).length ≤ 50000 := by
          have h1 := rowsT_le (things (ps.take i))
          have h2 := things_le (ps.take i)
          simp at h2; omega
        generalize rowsT (things (ps.take i)) = rw' at *
        have app : ∀ G2, rw'.getLast? ≠ some t → isT "list" (S ++ thp rw' :: G2) (D.ref S.length) ∧ rw'.length < sizeLine ∧ N [some (.ref n), some (.ref S.length), some (.tup [.int t.1, .int t.2])] (S ++ Cell.lst (rw'.map eTh.enc ++ [.tup [.int t.1, .int t.2]]) :: G2) := fun G2 hne => by
          refine ⟨isT_at, by omega, ?_⟩
          have := fin (rw' ++ [t]) G2 (some (.tup [.int t.1, .int t.2])) (by rw [et]; unfold rowsS; rw [if_neg hne])
          simpa [thp] using this
        simp
        refine eq_list eTh (xs := rw') (ys := []) (by simp) (by simp) ?_
        simp
        split
        · rename_i hnil
          exact app _ (by rw [hnil]; simp)
        · rename_i hnil
          obtain ⟨u, hu⟩ : ∃ u, rw'.getLast? = some u := ⟨_, List.getLast?_eq_some_getLast hnil⟩
          refine ⟨_, th_last hu, ne_en eTh (x := u) (y := t) ?_⟩
          by_cases hut : u = t
          · subst hut
            simp
            exact fin _ _ _ (by rw [et]; unfold rowsS; rw [if_pos hu])
          · simp [hut]
            exact app _ (by rw [hu]; simpa using hut)
    · rintro ρ S' ⟨G, rfl, y, rfl⟩
      simp
      exact ret_list hS (fun i hi => by rw [List.getElem?_append_left hi]) get_at (Nat.le_refl _) (cls_map eTh _ _) (by simpa using hq)
  · exact h.elim
theorem ob_law_sound : Ob n_law_sound sp_law_sound w_law_sound := by
  intro ds S Q E hS hd h
  unfold sp_law_sound at h
  split at h
  · rename_i n
    obtain ⟨ps, hn, hl, hr, hc, hq⟩ := h
    have hrl := rowsT_le (things ps)
    have htl := things_le ps
    simp [w_law_sound, startD, sp_law_rows, hn, e_forR2]
    refine ⟨ps, rfl, by omega, by omega, ?_⟩
    generalize rowsT (things ps) = ts at *
    refine loop_range (fun i ρ S' => S' = S ++ [thp ts] ∧ ∃ x, ρ = [some (.ref n), some (.ref S.length), x, none]) ⟨rfl, none, rfl⟩ ?_ ?_
    · rintro i ρ S' N hi ⟨rfl, x, rfl⟩ hN
      have e0 := th_at (ts := ts) (i := i) (by omega)
      have e1 := th_at (ts := ts) (i := i + 1) (by omega)
      have e2 : (1 : Int) + i = ((i + 1 : Nat) : Int) := by omega
      have e3 : ((i + 1 : Nat) : Int) - 1 = (i : Nat) := by omega
      simp only [e2]
      simp [-Int.natCast_add, e3, e0, e1, jx0]
      exact .inl ⟨rises_at hr i (by omega), hN _ _ ⟨rfl, _, rfl⟩⟩
    · rintro ρ S' ⟨rfl, x, rfl⟩
      simp
      refine ⟨_, app_get hn, comp_full (app_get hn) (by simp) ?_⟩
      simp
      have : decide ((things ps).length ≤ ts.length + 1) = true := decide_eq_true hc
      have hc' : ((things ps).length : Int) ≤ (ts.length : Int) + 1 := by omega
      rw [decide_eq_true hc']
      exact ret_pure hS (by simp only [Cl]) hq
  · exact h.elim
theorem seqIx {i : Int} {n : Nat} (h0 : 0 ≤ i) (h1 : i < n) : seqIndex? i n = some i.toNat := by
  unfold seqIndex?
  simp only [show ¬ i < 0 by omega, if_false, h0, h1, decide_true, Bool.and_self, if_true]
theorem set1 {S : Store} {a b c : Cell} {G : Store} : (S ++ a :: b :: G).set (S.length + 1) c = S ++ a :: c :: G := by rw [List.set_append_right _ _ (by omega), show S.length + 1 - S.length = 1 by omega]; rfl
theorem at2 {S : Store} {a b c : Cell} {G : Store} : (S ++ a :: b :: c :: G)[S.length + 1 + 1]? = some c := by rw [List.getElem?_append_right (by omega), show S.length + 1 + 1 - S.length = 2 by omega]; rfl
theorem at3 {S : Store} {a b c d : Cell} {G : Store} : (S ++ a :: b :: c :: d :: G)[S.length + 3]? = some d := by rw [List.getElem?_append_right (by omega), show S.length + 3 - S.length = 3 by omega]; rfl
theorem fm_range {α β : Type} (xs : List α) (h : α → Option β) : ∀ n, n ≤ xs.length → (List.range n).filterMap (fun i => xs[i]?.bind h) = (xs.take n).filterMap h
  | 0, _ => by simp
  | n + 1, hn => by
    have e : [n].filterMap (fun i => xs[i]?.bind h) = [xs[n]'(by omega)].filterMap h := by
      simp only [List.filterMap_cons, List.filterMap_nil, List.getElem?_eq_getElem (show n < xs.length by omega), Option.bind_some]
    rw [List.range_succ, List.filterMap_append, fm_range xs h n (by omega), take_next (show n < xs.length by omega), List.filterMap_append, e]
def thg (ps : List Pl) (p : Nat) : Th := (plAt ps p).getD (0, 0)
theorem fullN_at {ps : List Pl} {p : Nat} (h : p ∈ fullN ps) : plAt ps p = some (thg ps p) ∧ ps[p]? = some (some (thg ps p)) := by
  unfold fullN at h
  have h2 := (List.mem_filter.mp h).2
  unfold fullAt at h2
  split at h2
  · rename_i u hu
    have e : plAt ps p = some u := by simp [plAt, List.getD, hu]
    have e2 : thg ps p = u := by simp [thg, e]
    rw [e2]; exact ⟨e, hu⟩
  · cases h2
theorem movesF_in {prs : List Mv} {x : Mv} (h : x ∈ movesF prs) : x ∈ prs := by
  unfold movesF at h
  rcases List.mem_append.mp h with h | h
  · exact (List.mem_filter.mp (List.mem_reverse.mp h)).1
  · exact (List.mem_filter.mp h).1
theorem movesF_len (prs : List Mv) : (movesF prs).length ≤ 2 * prs.length := by
  unfold movesF
  rw [List.length_append, List.length_reverse]
  have h1 := List.length_filter_le (fun x : Mv => decide (x.1 < x.2)) prs
  have h2 := List.length_filter_le (fun x : Mv => decide (x.2 < x.1)) prs
  omega
/-! ### moves, with what is cleared told -/
def Safe2 (ts : List Th) : List Wr → List Pl → (List Pl → Prop) → Prop
  | [], s, F => F s
  | w :: ws, s, F => (w.2 ≠ none → s[w.1.toNat]? = some none) ∧ (w.2 = none → ∃ l t r, ts = l ++ t :: r ∧ things s = l ++ t :: t :: r ∧ s[w.1.toNat]? = some (some t)) ∧ (0 ≤ w.1 ∧ w.1 < s.length) ∧ RowsOk ts (s.set w.1.toNat w.2) ∧ Safe2 ts ws (s.set w.1.toNat w.2) F
theorem Safe2.app {ts : List Th} : ∀ {a b : List Wr} {s : List Pl} {F : List Pl → Prop}, Safe2 ts a s (fun s' => Safe2 ts b s' F) → Safe2 ts (a ++ b) s F
  | [], _, _, _, h => h
  | w :: a, b, s, F, h => ⟨h.1, h.2.1, h.2.2.1, h.2.2.2.1, Safe2.app h.2.2.2.2⟩
theorem Safe2.imp {ts : List Th} : ∀ {a : List Wr} {s : List Pl} {F G : List Pl → Prop}, (∀ s, F s → G s) → Safe2 ts a s F → Safe2 ts a s G
  | [], _, _, _, k, h => k _ h
  | w :: a, s, F, G, k, h => ⟨h.1, h.2.1, h.2.2.1, h.2.2.2.1, Safe2.imp k h.2.2.2.2⟩
theorem Safe2.move {L R : Cs} {x y : Nat} {t : Th} {s : List Pl} {F : List Pl → Prop} {ws : List Wr} (h : On (L ++ (x, t) :: R) s) (hs : Srt (L ++ (y, t) :: R)) (hy : y < s.length) (hxy : x ≠ y)
    (k : ∀ s', On (L ++ (y, t) :: R) s' → s'.length = s.length → Safe2 (L.map (·.2) ++ t :: R.map (·.2)) ws s' F) : Safe2 (L.map (·.2) ++ t :: R.map (·.2)) (((y : Int), some t) :: ((x : Int), none) :: ws) s F := by
  have hx := h.lt (c := (x, t)) (by simp)
  obtain ⟨a1, a2, a3⟩ := Srt.app.mp h.srt
  obtain ⟨b1, b2, b3⟩ := Srt.app.mp hs
  obtain ⟨a4, a5⟩ := Srt.cons.mp a2
  obtain ⟨b4, b5⟩ := Srt.cons.mp b2
  have hny : ∀ c ∈ L ++ (x, t) :: R, c.1 ≠ y := fun c hc => by
    rcases List.mem_append.mp hc with hc | hc
    · have := b3 c hc (y, t) (by simp); simp at this; omega
    · rcases List.mem_cons.mp hc with rfl | hc
      · exact hxy
      · have := b4 c hc; simp at this; omega
  have hLx : ∀ c ∈ L, c.1 ≠ x := fun c hc => by have := a3 c hc (x, t) (by simp); simp at this; omega
  have hRx : ∀ c ∈ R, c.1 ≠ x := fun c hc => by have := a4 c hc; simp at this; omega
  have both : ∃ cs' : Cs, On cs' (s.set y (some t)) ∧ cs'.map (·.2) = L.map (·.2) ++ t :: t :: R.map (·.2) ∧ ∀ c, c ∈ cs' ↔ c ∈ L ++ (x, t) :: R ∨ c = (y, t) := by
    rcases Nat.lt_or_ge x y with hlt | hge
    · refine ⟨L ++ (x, t) :: (y, t) :: R, ?_, by simp, ?_⟩
      · refine h.lay hy hny (Srt.app.mpr ⟨a1, Srt.cons.mpr ⟨fun c hc => ?_, b2⟩, fun c hc d hd => ?_⟩) ?_
        · rcases List.mem_cons.mp hc with rfl | hc
          · exact hlt
          · exact a4 c hc
        · rcases List.mem_cons.mp hd with rfl | hd
          · exact a3 c hc _ (by simp)
          · exact b3 c hc d hd
        · intro c; simp only [List.mem_append, List.mem_cons, or_assoc, or_left_comm, or_comm]
      · intro c; simp only [List.mem_append, List.mem_cons, or_assoc, or_left_comm, or_comm]
    · refine ⟨L ++ (y, t) :: (x, t) :: R, ?_, by simp, ?_⟩
      · refine h.lay hy hny (Srt.app.mpr ⟨a1, Srt.cons.mpr ⟨fun c hc => ?_, a2⟩, fun c hc d hd => ?_⟩) ?_
        · rcases List.mem_cons.mp hc with rfl | hc
          · show y < x; omega
          · exact b4 c hc
        · rcases List.mem_cons.mp hd with rfl | hd
          · exact b3 c hc _ (by simp)
          · exact a3 c hc d hd
        · intro c; simp only [List.mem_append, List.mem_cons, or_assoc, or_left_comm, or_comm]
      · intro c; simp only [List.mem_append, List.mem_cons, or_assoc, or_left_comm, or_comm]
  obtain ⟨cs', o1, e1, m1⟩ := both
  have o2 : On (L ++ (y, t) :: R) ((s.set y (some t)).set x none) := o1.clear (by simpa using hx) hs fun c => by
    rw [m1]
    simp only [List.mem_append, List.mem_cons]
    constructor
    · rintro (h | h | h)
      · exact ⟨.inl (.inl h), hLx c h⟩
      · exact ⟨.inr h, by rw [h]; exact fun e => hxy e.symm⟩
      · exact ⟨.inl (.inr (.inr h)), hRx c h⟩
    · rintro ⟨(h | h | h) | h, h2⟩
      · exact .inl h
      · exact absurd (by rw [h]) h2
      · exact .inr (.inr h)
      · exact .inr (.inl h)
  refine ⟨fun _ => ?_, fun hc => by simp at hc, ⟨by simp, by simpa using hy⟩, .inr ⟨L.map (·.2), t, R.map (·.2), rfl, ?_⟩, fun hc => absurd rfl hc, fun _ => ⟨L.map (·.2), t, R.map (·.2), rfl, ?_, ?_⟩, ⟨by simp, by simpa using hx⟩, .inl ?_, ?_⟩
  · simp only [Int.toNat_natCast]
    exact h.no y hy fun c hc => by simpa using hny c hc
  · simp only [Int.toNat_natCast]; rw [o1.things, e1]
  · simp only [Int.toNat_natCast]; rw [o1.things, e1]
  · simp only [Int.toNat_natCast]
    have := (o1.at' (x, t) ((m1 _).mpr (.inl (by simp)))).2
    simpa using this
  · simp only [Int.toNat_natCast]; rw [o2.things]; simp
  · simp only [Int.toNat_natCast]; exact k _ o2 (by simp)
theorem phase1b {ts : List Th} {ws : List Wr} {F : List Pl → Prop} : ∀ (U : List Tr) (R : Cs) (s : List Pl), On (trP U.reverse ++ R) s → Srt (trM U.reverse ++ R) → (∀ x ∈ U, x.2.1 < s.length) → ts = trT U.reverse ++ R.map (·.2) →
    (∀ s', On (trM U.reverse ++ R) s' → s'.length = s.length → Safe2 ts ws s' F) → Safe2 ts ((U.filter onw).flatMap trW ++ ws) s F
  | [], R, s, h, hs, hb, ht, k => k s (by simpa [trM, trP] using h) rfl
  | x :: U, R, s, h, hs, hb, ht, k => by
    obtain ⟨p, a, t⟩ := x
    have e1 : trP (((p, a, t) : Tr) :: U).reverse ++ R = trP U.reverse ++ (p, t) :: R := by simp [trP]
    have e2 : trM (((p, a, t) : Tr) :: U).reverse ++ R = trM U.reverse ++ (max p a, t) :: R := by simp [trM]
    have e3 : trT (((p, a, t) : Tr) :: U).reverse ++ R.map (·.2) = trT U.reverse ++ t :: R.map (·.2) := by simp [trT]
    rw [e1] at h
    rw [e2] at hs k
    rw [e3] at ht
    have ha := hb (p, a, t) (by simp)
    have hb' : ∀ x ∈ U, x.2.1 < s.length := fun x hx => hb x (by simp [hx])
    by_cases hpa : p < a
    · have hm : max p a = a := Nat.max_eq_right (by omega)
      rw [hm] at hs k
      have hf : (((p, a, t) : Tr) :: U).filter onw = (p, a, t) :: U.filter onw := by simp [onw, hpa]
      rw [hf]
      have hts : ts = (trP U.reverse).map (·.2) ++ t :: R.map (·.2) := by rw [ht]; simp [trP, trT]
      obtain ⟨a1, a2, a3⟩ := Srt.app.mp h.srt
      obtain ⟨b1, b2, b3⟩ := Srt.app.mp hs
      obtain ⟨b4, b5⟩ := Srt.cons.mp b2
      have hsrt : Srt (trP U.reverse ++ (a, t) :: R) := Srt.app.mpr ⟨a1, b2, fun c hc d hd => by
        have := a3 c hc (p, t) (by simp)
        rcases List.mem_cons.mp hd with rfl | hd
        · simp at this ⊢; omega
        · have h2 := b4 d hd; simp at this h2; omega⟩
      show Safe2 ts (trW (p, a, t) ++ (U.filter onw).flatMap trW ++ ws) s F
      rw [hts]
      refine Safe2.move h hsrt ha (show p ≠ a by omega) fun s' h' hl => ?_
      rw [← hts]
      exact phase1b U ((a, t) :: R) s' h' hs (fun x hx => by rw [hl]; exact hb' x hx) (by rw [ht]; rfl) fun s2 h2 hl2 => k s2 h2 (by rw [hl2, hl])
    · have hm : max p a = p := Nat.max_eq_left (by omega)
      rw [hm] at hs k
      have hf : (((p, a, t) : Tr) :: U).filter onw = U.filter onw := by simp [onw, hpa]
      rw [hf]
      exact phase1b U ((p, t) :: R) s h hs hb' (by rw [ht]; rfl) k
theorem phase2b {ts : List Th} {ws : List Wr} {F : List Pl → Prop} : ∀ (T : List Tr) (L : Cs) (s : List Pl), On (L ++ trM T) s → Srt (L ++ trA T) → (∀ x ∈ T, x.2.1 < s.length) → ts = L.map (·.2) ++ trT T →
    (∀ s', On (L ++ trA T) s' → s'.length = s.length → Safe2 ts ws s' F) → Safe2 ts ((T.filter bkw).flatMap trW ++ ws) s F
  | [], L, s, h, hs, hb, ht, k => k s (by simpa [trM, trA] using h) rfl
  | (p, a, t) :: T, L, s, h, hs, hb, ht, k => by
    have e1 : L ++ trM ((p, a, t) :: T) = L ++ (max p a, t) :: trM T := rfl
    have e2 : L ++ trA ((p, a, t) :: T) = L ++ (a, t) :: trA T := rfl
    rw [e1] at h
    rw [e2] at hs k
    have ht' : ts = L.map (·.2) ++ t :: trT T := ht
    have ha := hb (p, a, t) (by simp)
    have hb' : ∀ x ∈ T, x.2.1 < s.length := fun x hx => hb x (by simp [hx])
    have re : ∀ X : Cs, L ++ (a, t) :: X = (L ++ [(a, t)]) ++ X := fun X => by simp
    by_cases hpa : a < p
    · have hm : max p a = p := Nat.max_eq_left (by omega)
      rw [hm] at h
      have hf : ((p, a, t) :: T).filter bkw = (p, a, t) :: T.filter bkw := by simp [bkw, hpa]
      rw [hf]
      have hmm : (trM T).map (·.2) = trT T := by simp [trM, trT]
      have hts : ts = L.map (·.2) ++ t :: (trM T).map (·.2) := by rw [ht', hmm]
      obtain ⟨a1, a2, a3⟩ := Srt.app.mp h.srt
      obtain ⟨a4, a5⟩ := Srt.cons.mp a2
      obtain ⟨b1, b2, b3⟩ := Srt.app.mp hs
      have hsrt : Srt (L ++ (a, t) :: trM T) := Srt.app.mpr ⟨a1, Srt.cons.mpr ⟨fun d hd => by have := a4 d hd; simp at this ⊢; omega, a5⟩, fun c hc d hd => by
        rcases List.mem_cons.mp hd with rfl | hd
        · exact b3 c hc _ (by simp)
        · exact a3 c hc d (by simp [hd])⟩
      show Safe2 ts (trW (p, a, t) ++ (T.filter bkw).flatMap trW ++ ws) s F
      rw [hts]
      refine Safe2.move h hsrt ha (show p ≠ a by omega) fun s' h' hl => ?_
      rw [← hts]
      rw [re] at h' hs k
      exact phase2b T (L ++ [(a, t)]) s' h' hs (fun x hx => by rw [hl]; exact hb' x hx) (by rw [ht']; simp) fun s2 h2 hl2 => k s2 h2 (by rw [hl2, hl])
    · have hf : ((p, a, t) :: T).filter bkw = T.filter bkw := by simp [bkw, hpa]
      rw [hf]
      rw [re] at hs k
      have hm : max p a = a := Nat.max_eq_right (by omega)
      rw [hm, re] at h
      exact phase2b T (L ++ [(a, t)]) s h hs hb' (by rw [ht']; simp) k
theorem moves_safe2 {T : List Tr} {s : List Pl} {ws : List Wr} {F : List Pl → Prop} (h : On (trP T) s) (ha : Srt (trA T)) (hb : ∀ x ∈ T, x.2.1 < s.length) (k : ∀ s', On (trA T) s' → s'.length = s.length → Safe2 (trT T) ws s' F) : Safe2 (trT T) (trWs T ++ ws) s F := by
  unfold trWs
  rw [List.append_assoc, ← List.filter_reverse]
  refine phase1b T.reverse [] s (by simpa using h) (by simpa using srt_max h.srt ha) (fun x hx => hb x (by simpa using hx)) (by simp) fun s' h' hl => ?_
  refine phase2b T [] s' (by simpa using h') (by simpa using ha) (fun x hx => by rw [hl]; exact hb x hx) (by simp) fun s2 h2 hl2 => ?_
  exact k s2 (by simpa using h2) (by rw [hl2, hl])
/-- the things by their places -/
def cells (ps : List Pl) : Cs := (fullN ps).map fun p => (p, thg ps p)
theorem cells_on (ps : List Pl) : On (cells ps) ps := by
  unfold cells
  refine ⟨fun c hc => ?_, fun x hx hc => ?_, ?_⟩
  · obtain ⟨p, hp, rfl⟩ := List.mem_map.mp hc
    exact ⟨Nat.zero_le _, (fullN_at hp).2⟩
  · have hnot : x ∉ fullN ps := fun h => hc (x, thg ps x) (List.mem_map.mpr ⟨x, h, rfl⟩) (by simp)
    rw [List.getElem?_eq_getElem hx]
    cases e : ps[x] with
    | none => rfl
    | some u =>
      exfalso
      refine hnot (List.mem_filter.mpr ⟨by simpa using hx, ?_⟩)
      unfold fullAt
      rw [List.getElem?_eq_getElem hx, e]
  · unfold Srt
    rw [List.pairwise_map]
    exact (List.pairwise_lt_range.filter _).imp fun h => h
theorem On.mem_iff {cs : Cs} {s : List Pl} (h : On cs s) (c : Nat × Th) : c ∈ cs ↔ s[c.1]? = some (some c.2) := by
  constructor
  · intro hc; simpa using (h.at' c hc).2
  · intro e
    refine Classical.byContradiction fun hn => ?_
    have hl := (List.getElem?_eq_some_iff.mp e).1
    by_cases hx : ∃ d ∈ cs, d.1 = c.1
    · obtain ⟨d, hd, e1⟩ := hx
      have := (h.at' d hd).2
      simp at this
      rw [e1, e] at this
      have : d = c := Prod.ext e1 (by simpa using this.symm)
      exact hn (this ▸ hd)
    · have := h.no c.1 hl fun d hd => by simpa using fun e1 => hx ⟨d, hd, e1⟩
      rw [e] at this; simp at this
theorem On.eq {cs : Cs} {s s' : List Pl} (h : On cs s) (h' : On cs s') (hl : s.length = s'.length) : s = s' := by
  apply List.ext_getElem?
  intro i
  by_cases hi : i < s.length
  · cases e : s[i] with
    | some t =>
      have e1 : s[i]? = some (some t) := by rw [List.getElem?_eq_getElem hi, e]
      have := (h'.mem_iff (i, t)).mp ((h.mem_iff (i, t)).mpr e1)
      rw [e1]; exact this.symm
    | none =>
      have e1 : s[i]? = some none := by rw [List.getElem?_eq_getElem hi, e]
      rw [e1]
      have hi' : i < s'.length := by omega
      cases e2 : s'[i] with
      | none => rw [List.getElem?_eq_getElem hi', e2]
      | some t =>
        have e3 : s'[i]? = some (some t) := by rw [List.getElem?_eq_getElem hi', e2]
        have := (h.mem_iff (i, t)).mp ((h'.mem_iff (i, t)).mpr e3)
        rw [e1] at this; simp at this
  · rw [List.getElem?_eq_none (by omega), List.getElem?_eq_none (by omega)]
theorem Srt.eq {a b : Cs} (ha : Srt a) (hb : Srt b) (h : ∀ c, c ∈ a ↔ c ∈ b) : a = b := by
  have na : a.Nodup := List.Pairwise.imp (fun h e => by subst e; omega) ha
  have nb : b.Nodup := List.Pairwise.imp (fun h e => by subst e; omega) hb
  have hp := (List.perm_ext_iff_of_nodup na nb).mpr h
  exact hp.eq_of_pairwise (le := fun x y : Nat × Th => x.1 < y.1) (fun x y _ _ h1 h2 => by omega) ha hb
theorem On.cells {cs : Cs} {s : List Pl} (h : On cs s) : cs = cells s := Srt.eq h.srt (cells_on s).srt fun c => by rw [h.mem_iff, (cells_on s).mem_iff]
theorem cells_things (ps : List Pl) : (cells ps).map (·.2) = things ps := (cells_on ps).things.symm
/-! ### evening a stretch -/
def csL (ps : List Pl) (f : Nat) : Cs := (cells ps).filter fun c => decide (c.1 < f)
def csM (ps : List Pl) (f z : Nat) : Cs := (cells ps).filter fun c => decide (f ≤ c.1 ∧ c.1 < f + z)
def csR (ps : List Pl) (e : Nat) : Cs := (cells ps).filter fun c => decide (e ≤ c.1)
def lessC (key : Int) (c : Nat × Th) : Bool := decide (c.2.1 < key)
def atN (ps : List Pl) (f z : Nat) (key : Int) : Nat := ((csM ps f z).filter (lessC key)).length
def aimAt (f z n k : Nat) : Nat := f + k * z / n
def aimsN (f z n : Nat) : List Nat := (List.range n).map (aimAt f z n)
def othersN (ps : List Pl) (f z : Nat) (key : Int) : List Nat :=
  (aimsN f z ((csM ps f z).length + 1)).take (atN ps f z key) ++ (aimsN f z ((csM ps f z).length + 1)).drop (atN ps f z key + 1)
def stay (c : Nat × Th) : Tr := (c.1, c.1, c.2)
def goTr (x : (Nat × Th) × Nat) : Tr := (x.1.1, x.2, x.1.2)
def evT (ps : List Pl) (f z : Nat) (key : Int) : List Tr := (csL ps f).map stay ++ (((csM ps f z).zip (othersN ps f z key)).map goTr ++ (csR ps (f + z)).map stay)
def newAim (ps : List Pl) (f z : Nat) (key : Int) : Nat := aimAt f z ((csM ps f z).length + 1) (atN ps f z key)
def insTh (ts : List Th) (t : Th) : List Th := ts.filter (fun u => decide (u.1 < t.1)) ++ t :: ts.filter (fun u => !decide (u.1 < t.1))
def finC (ps : List Pl) (f z : Nat) (t : Th) : Cs := csL ps f ++ ((aimsN f z ((csM ps f z).length + 1)).zip (insTh ((csM ps f z).map (·.2)) t) ++ csR ps (f + z))
theorem filter_le_split {α : Type} (g : α → Nat) : ∀ (l : List α) (f : Nat), l.Pairwise (fun a b => g a < g b) → l = l.filter (fun c => decide (g c < f)) ++ l.filter (fun c => decide (f ≤ g c))
  | [], _, _ => rfl
  | c :: l, f, h => by
    have hp := List.pairwise_cons.mp h
    have ih := filter_le_split g l f hp.2
    by_cases hc : g c < f
    · rw [List.filter_cons, if_pos (by simpa using hc), List.filter_cons, if_neg (by simp; omega), List.cons_append, ← ih]
    · have h1 : l.filter (fun c => decide (g c < f)) = [] := by
        rw [List.filter_eq_nil_iff]
        intro d hd
        have := hp.1 d hd
        simp; omega
      have h2 : l.filter (fun c => decide (f ≤ g c)) = l := by
        rw [List.filter_eq_self]
        intro d hd
        have := hp.1 d hd
        simp; omega
      rw [List.filter_cons, if_neg (by simpa using hc), List.filter_cons, if_pos (by simp; omega), h1, h2]; rfl
theorem filter_lt_splitI {α : Type} (g : α → Int) : ∀ (l : List α) (f : Int), l.Pairwise (fun a b => g a < g b) → l = l.filter (fun c => decide (g c < f)) ++ l.filter (fun c => !decide (g c < f))
  | [], _, _ => rfl
  | c :: l, f, h => by
    have hp := List.pairwise_cons.mp h
    have ih := filter_lt_splitI g l f hp.2
    by_cases hc : g c < f
    · rw [List.filter_cons, if_pos (by simpa using hc), List.filter_cons, if_neg (by simp; omega), List.cons_append, ← ih]
    · have h1 : l.filter (fun c => decide (g c < f)) = [] := by
        rw [List.filter_eq_nil_iff]
        intro d hd
        have := hp.1 d hd
        simp; omega
      have h2 : l.filter (fun c => !decide (g c < f)) = l := by
        rw [List.filter_eq_self]
        intro d hd
        have := hp.1 d hd
        simp; omega
      rw [List.filter_cons, if_neg (by simpa using hc), List.filter_cons, if_pos (by simp; omega), h1, h2]; rfl
theorem cells_split (ps : List Pl) (f z : Nat) : cells ps = csL ps f ++ (csM ps f z ++ csR ps (f + z)) := by
  have h1 := filter_le_split (fun c : Nat × Th => c.1) (cells ps) f (cells_on ps).srt
  have h2 := filter_le_split (fun c : Nat × Th => c.1) ((cells ps).filter fun c => decide (f ≤ c.1)) (f + z) ((cells_on ps).srt.filter _)
  conv => lhs; rw [h1]
  unfold csL
  congr 1
  rw [h2, List.filter_filter, List.filter_filter]
  unfold csM csR
  congr 1
  · apply List.filter_congr; intro c _; simp; rw [Bool.and_comm]
  · apply List.filter_congr; intro c _; simp; omega
theorem cells_keys {ps : List Pl} (h : Rises (things ps)) : (cells ps).Pairwise fun a b => a.2.1 < b.2.1 := by
  unfold Rises at h
  rw [← cells_things, List.pairwise_map] at h
  exact h
theorem aimsN_length (f z n : Nat) : (aimsN f z n).length = n := by simp [aimsN]
theorem aim_step {z n : Nat} (hn : 0 < n) (h : n ≤ z) (k : Nat) : k * z / n < (k + 1) * z / n := by
  have h1 : (k + 1) * z = k * z + z := Nat.succ_mul k z
  have h2 : (k * z + n) / n ≤ (k * z + z) / n := Nat.div_le_div_right (by omega)
  rw [Nat.add_div_right _ hn] at h2
  rw [h1]; omega
theorem aim_lt {z n : Nat} (hn : 0 < n) (h : n ≤ z) {j k : Nat} (hjk : j < k) : j * z / n < k * z / n := by
  obtain ⟨d, rfl⟩ : ∃ d, k = j + 1 + d := ⟨k - j - 1, by omega⟩
  clear hjk
  induction d with
  | zero => exact aim_step hn h j
  | succ d ih => exact Nat.lt_trans ih (aim_step hn h (j + 1 + d))
theorem aimsN_srt {f z n : Nat} (h : n ≤ z) : (aimsN f z n).Pairwise (· < ·) := by
  unfold aimsN
  rw [List.pairwise_map]
  rcases Nat.eq_zero_or_pos n with hn | hn
  · subst hn; simp
  · exact List.pairwise_lt_range.imp fun {a b} hab => by
      have := aim_lt hn h hab
      unfold aimAt; omega
theorem aim_in {z n k : Nat} (hk : k < n) (hz : 0 < z) : k * z / n < z := by
  rw [Nat.div_lt_iff_lt_mul (by omega), Nat.mul_comm z n]
  exact Nat.mul_lt_mul_of_pos_right hk hz
theorem aimsN_mem {f z n a : Nat} (hz : 0 < z) (h : a ∈ aimsN f z n) : f ≤ a ∧ a < f + z := by
  unfold aimsN at h
  obtain ⟨k, hk, rfl⟩ := List.mem_map.mp h
  have := aim_in (n := n) (by simpa using hk) hz
  show f ≤ f + k * z / n ∧ f + k * z / n < f + z
  exact ⟨Nat.le_add_right _ _, Nat.add_lt_add_left this _⟩
theorem srt_zip {as : List Nat} {ts : List Th} (h : as.Pairwise (· < ·)) (hl : as.length ≤ ts.length) : Srt (as.zip ts) := by
  unfold Srt
  have : ((as.zip ts).map Prod.fst).Pairwise (· < ·) := by rw [List.map_fst_zip hl]; exact h
  rwa [List.pairwise_map] at this
structure EvOk (ps : List Pl) (f z : Nat) (key : Int) : Prop where
  ris : Rises (things ps)
  len : f + z ≤ ps.length
  room : (csM ps f z).length + 1 ≤ z
  lo : ∀ c ∈ csL ps f, c.2.1 < key
  hi : ∀ c ∈ csR ps (f + z), key < c.2.1
  no : ∀ t ∈ things ps, t.1 ≠ key
section
variable {ps : List Pl} {f z : Nat} {key : Int}
theorem csM_split (h : Rises (things ps)) : csM ps f z = (csM ps f z).filter (lessC key) ++ (csM ps f z).filter (fun c => !lessC key c) :=
  filter_lt_splitI (fun c : Nat × Th => c.2.1) (csM ps f z) key ((cells_keys h).filter _)
theorem atN_le : atN ps f z key ≤ (csM ps f z).length := List.length_filter_le _ _
theorem othersN_length : (othersN ps f z key).length = (csM ps f z).length := by
  have := atN_le (ps := ps) (f := f) (z := z) (key := key)
  unfold othersN
  rw [List.length_append, List.length_take, List.length_drop, aimsN_length]
  omega
theorem insTh_length (ts : List Th) (t : Th) : (insTh ts t).length = ts.length + 1 := by
  unfold insTh
  rw [List.length_append, List.length_cons]
  have : ∀ l : List Th, (l.filter (fun u => decide (u.1 < t.1))).length + (l.filter (fun u => !decide (u.1 < t.1))).length = l.length := fun l => by
    induction l with
    | nil => rfl
    | cons u l ih => by_cases hu : u.1 < t.1 <;> simp [hu] at ih ⊢ <;> omega
  have := this ts; omega
/-- the parts -/
structure EvPart (ps : List Pl) (f z : Nat) (key : Int) (A1 A2 : List Nat) (M1 M2 : Cs) : Prop where
  aims : aimsN f z ((csM ps f z).length + 1) = A1 ++ newAim ps f z key :: A2
  m : csM ps f z = M1 ++ M2
  l1 : A1.length = M1.length
  l2 : A2.length = M2.length
  k1 : ∀ c ∈ M1, c.2.1 < key
  k2 : ∀ c ∈ M2, ¬ c.2.1 < key
  oth : othersN ps f z key = A1 ++ A2
theorem ev_part (h : Rises (things ps)) : ∃ A1 A2 M1 M2, EvPart ps f z key A1 A2 M1 M2 := by
  have hat := atN_le (ps := ps) (f := f) (z := z) (key := key)
  have hm := csM_split (f := f) (z := z) (key := key) h
  have hl := congrArg List.length hm
  rw [List.length_append] at hl
  refine ⟨(aimsN f z ((csM ps f z).length + 1)).take (atN ps f z key), (aimsN f z ((csM ps f z).length + 1)).drop (atN ps f z key + 1), _, _, ?_, hm, ?_, ?_, ?_, ?_, rfl⟩
  · have hlt : atN ps f z key < (aimsN f z ((csM ps f z).length + 1)).length := by rw [aimsN_length]; omega
    conv => lhs; rw [← List.take_append_drop (atN ps f z key) (aimsN f z ((csM ps f z).length + 1))]
    rw [List.drop_eq_getElem_cons hlt]
    congr 2
    simp [aimsN, newAim]
  · rw [List.length_take, aimsN_length]; unfold atN; unfold atN at hat; omega
  · rw [List.length_drop, aimsN_length]; unfold atN at hat ⊢; omega
  · intro c hc; simpa [lessC] using (List.mem_filter.mp hc).2
  · intro c hc; have := (List.mem_filter.mp hc).2; simp [lessC] at this; omega
theorem EvPart.ins {A1 A2 : List Nat} {M1 M2 : Cs} (p : EvPart ps f z key A1 A2 M1 M2) (am : Int) : insTh ((csM ps f z).map (·.2)) (key, am) = M1.map (·.2) ++ (key, am) :: M2.map (·.2) := by
  have e1 : M1.filter (fun c => decide (c.2.1 < key)) = M1 := List.filter_eq_self.mpr fun c hc => by simpa using p.k1 c hc
  have e2 : M2.filter (fun c => decide (c.2.1 < key)) = [] := List.filter_eq_nil_iff.mpr fun c hc => by simpa using p.k2 c hc
  have e3 : M1.filter (fun c => !decide (c.2.1 < key)) = [] := List.filter_eq_nil_iff.mpr fun c hc => by simpa using p.k1 c hc
  have e4 : M2.filter (fun c => !decide (c.2.1 < key)) = M2 := List.filter_eq_self.mpr fun c hc => by simpa using p.k2 c hc
  unfold insTh
  rw [p.m, List.map_append, List.filter_append, List.filter_append, List.filter_map, List.filter_map, List.filter_map, List.filter_map]
  simp only [Function.comp_def]
  rw [e1, e2, e3, e4]
  simp
theorem EvPart.fin {A1 A2 : List Nat} {M1 M2 : Cs} (p : EvPart ps f z key A1 A2 M1 M2) (am : Int) :
    finC ps f z (key, am) = (csL ps f ++ A1.zip (M1.map (·.2))) ++ (newAim ps f z key, (key, am)) :: (A2.zip (M2.map (·.2)) ++ csR ps (f + z)) := by
  unfold finC
  rw [p.ins, p.aims, List.zip_append (by simpa using p.l1), List.zip_cons_cons]
  simp
theorem trA_stay (cs : Cs) : trA (cs.map stay) = cs := by simp [trA, stay, Function.comp_def]
theorem trP_stay (cs : Cs) : trP (cs.map stay) = cs := by simp [trP, stay, Function.comp_def]
theorem trA_go (M : Cs) (A : List Nat) : trA ((M.zip A).map goTr) = A.zip (M.map (·.2)) := by
  induction M generalizing A with
  | nil => simp [trA]
  | cons c M ih => cases A with
    | nil => simp [trA]
    | cons a A => have := ih A; simp [trA, goTr] at this ⊢; exact this
theorem trP_go (M : Cs) (A : List Nat) (h : A.length = M.length) : trP ((M.zip A).map goTr) = M := by
  induction M generalizing A with
  | nil => simp [trP]
  | cons c M ih => cases A with
    | nil => simp at h
    | cons a A => have := ih A (by simpa using h); simp [trP, goTr] at this ⊢; exact this
theorem tr_app (f : List Tr → Cs) : True := trivial
theorem trA_app (a b : List Tr) : trA (a ++ b) = trA a ++ trA b := by simp [trA]
theorem trP_app (a b : List Tr) : trP (a ++ b) = trP a ++ trP b := by simp [trP]
theorem evT_P : trP (evT ps f z key) = cells ps := by
  unfold evT
  rw [trP_app, trP_app, trP_stay, trP_stay, trP_go _ _ othersN_length, ← cells_split]
theorem EvPart.A {A1 A2 : List Nat} {M1 M2 : Cs} (p : EvPart ps f z key A1 A2 M1 M2) : trA (evT ps f z key) = (csL ps f ++ A1.zip (M1.map (·.2))) ++ (A2.zip (M2.map (·.2)) ++ csR ps (f + z)) := by
  unfold evT
  rw [trA_app, trA_app, trA_stay, trA_stay, trA_go, p.oth, p.m, List.map_append, List.zip_append (by simpa using p.l1)]
  simp
theorem evT_T : trT (evT ps f z key) = things ps := by
  have : trT (evT ps f z key) = (trP (evT ps f z key)).map (·.2) := by simp [trT, trP]
  rw [this, evT_P, cells_things]
theorem finC_srt (h : EvOk ps f z key) (am : Int) : Srt (finC ps f z (key, am)) := by
  unfold finC
  have hz : 0 < z := by have := h.room; omega
  refine Srt.app.mpr ⟨(cells_on ps).srt.filter _, Srt.app.mpr ⟨srt_zip (aimsN_srt h.room) (by rw [aimsN_length, insTh_length]; simp), (cells_on ps).srt.filter _, fun x hx y hy => ?_⟩, fun x hx y hy => ?_⟩
  · have h1 := aimsN_mem hz (List.of_mem_zip hx).1
    have h2 := (List.mem_filter.mp hy).2
    simp at h2; omega
  · have h1 := (List.mem_filter.mp hx).2
    simp at h1
    rcases List.mem_append.mp hy with hy | hy
    · have h2 := aimsN_mem hz (List.of_mem_zip hy).1; omega
    · have h2 := (List.mem_filter.mp hy).2
      simp at h2; omega
theorem finC_lt (h : EvOk ps f z key) (am : Int) : ∀ c ∈ finC ps f z (key, am), c.1 < ps.length := by
  intro c hc
  have hz : 0 < z := by have := h.room; omega
  have hl := h.len
  unfold finC at hc
  rcases List.mem_append.mp hc with hc | hc
  · exact (cells_on ps).lt (List.mem_filter.mp hc).1
  · rcases List.mem_append.mp hc with hc | hc
    · have := aimsN_mem hz (List.of_mem_zip hc).1; omega
    · exact (cells_on ps).lt (List.mem_filter.mp hc).1
theorem srt_mid {L R : Cs} {c : Nat × Th} (h : Srt (L ++ c :: R)) : Srt (L ++ R) := by
  obtain ⟨h1, h2, h3⟩ := Srt.app.mp h
  obtain ⟨h4, h5⟩ := Srt.cons.mp h2
  exact Srt.app.mpr ⟨h1, h5, fun x hx y hy => h3 x hx y (List.mem_cons_of_mem _ hy)⟩
theorem evT_srt (h : EvOk ps f z key) : Srt (trA (evT ps f z key)) := by
  obtain ⟨A1, A2, M1, M2, p⟩ := ev_part (f := f) (z := z) (key := key) h.ris
  have := finC_srt h 0
  rw [p.fin] at this
  rw [p.A]; exact srt_mid this
theorem evT_lt (h : EvOk ps f z key) : ∀ x ∈ evT ps f z key, x.2.1 < ps.length := by
  intro x hx
  have : (x.2.1, x.2.2) ∈ trA (evT ps f z key) := List.mem_map.mpr ⟨x, hx, rfl⟩
  obtain ⟨A1, A2, M1, M2, p⟩ := ev_part (f := f) (z := z) (key := key) h.ris
  refine finC_lt h 0 (x.2.1, x.2.2) ?_
  rw [p.fin]
  rw [p.A] at this
  rcases List.mem_append.mp this with h | h
  · exact List.mem_append_left _ h
  · exact List.mem_append_right _ (List.mem_cons_of_mem _ h)
/-- the last write -/
theorem ev_last (h : EvOk ps f z key) (am : Int) {s : List Pl} (hs : On (trA (evT ps f z key)) s) (hl : s.length = ps.length) :
    s[newAim ps f z key]? = some none ∧ newAim ps f z key < s.length ∧ On (finC ps f z (key, am)) (s.set (newAim ps f z key) (some (key, am))) := by
  obtain ⟨A1, A2, M1, M2, p⟩ := ev_part (f := f) (z := z) (key := key) h.ris
  have hsrt := finC_srt h am
  have hlt := finC_lt h am
  rw [p.fin] at hsrt hlt
  have hx : newAim ps f z key < s.length := by rw [hl]; exact hlt (_, (key, am)) (List.mem_append_right _ (List.mem_cons_self ..))
  have hne : ∀ c ∈ trA (evT ps f z key), c.1 ≠ newAim ps f z key := by
    intro c hc
    rw [p.A] at hc
    obtain ⟨h1, h2, h3⟩ := Srt.app.mp hsrt
    obtain ⟨h4, h5⟩ := Srt.cons.mp h2
    rcases List.mem_append.mp hc with hc | hc
    · have := h3 c hc _ (List.mem_cons_self ..); simp at this; omega
    · have := h4 c hc; simp at this; omega
  refine ⟨?_, hx, ?_⟩
  · exact hs.no _ hx fun c hc => by simpa using hne c hc
  · rw [p.fin]
    refine hs.lay hx hne hsrt fun c => ?_
    rw [p.A]
    simp only [List.mem_append, List.mem_cons]
    constructor
    · rintro (h | h | h)
      · exact .inl (.inl h)
      · exact .inr h
      · exact .inl (.inr h)
    · rintro ((h | h) | h)
      · exact .inl h
      · exact .inr (.inr h)
      · exact .inr (.inl h)
theorem insTh_app {l r : List Th} {t : Th} (h1 : ∀ u ∈ l, u.1 < t.1) (h2 : ∀ u ∈ r, ¬ u.1 < t.1) : insTh (l ++ r) t = l ++ t :: r := by
  have e1 : l.filter (fun u => decide (u.1 < t.1)) = l := List.filter_eq_self.mpr fun c hc => by simpa using h1 c hc
  have e2 : r.filter (fun u => decide (u.1 < t.1)) = [] := List.filter_eq_nil_iff.mpr fun c hc => by simpa using h2 c hc
  have e3 : l.filter (fun u => !decide (u.1 < t.1)) = [] := List.filter_eq_nil_iff.mpr fun c hc => by simpa using h1 c hc
  have e4 : r.filter (fun u => !decide (u.1 < t.1)) = r := List.filter_eq_self.mpr fun c hc => by simpa using h2 c hc
  unfold insTh
  rw [List.filter_append, List.filter_append, e1, e2, e3, e4]; simp
theorem things_split (ps : List Pl) (f z : Nat) : things ps = (csL ps f).map (·.2) ++ ((csM ps f z).map (·.2) ++ (csR ps (f + z)).map (·.2)) := by
  rw [← cells_things, cells_split ps f z]; simp
theorem finC_things (h : EvOk ps f z key) (am : Int) : (finC ps f z (key, am)).map (·.2) = insTh (things ps) (key, am) := by
  obtain ⟨A1, A2, M1, M2, p⟩ := ev_part (f := f) (z := z) (key := key) h.ris
  have e : things ps = ((csL ps f).map (·.2) ++ M1.map (·.2)) ++ (M2.map (·.2) ++ (csR ps (f + z)).map (·.2)) := by
    rw [things_split ps f z, p.m]; simp
  rw [e, insTh_app, p.fin]
  · have z1 : (A1.zip (M1.map (·.2))).map (·.2) = M1.map (·.2) := List.map_snd_zip (by simp [p.l1])
    have z2 : (A2.zip (M2.map (·.2))).map (·.2) = M2.map (·.2) := List.map_snd_zip (by simp [p.l2])
    simp only [List.map_append, List.map_cons, z1, z2]
  · intro u hu
    rcases List.mem_append.mp hu with hu | hu
    · obtain ⟨c, hc, rfl⟩ := List.mem_map.mp hu; exact h.lo c hc
    · obtain ⟨c, hc, rfl⟩ := List.mem_map.mp hu; exact p.k1 c hc
  · intro u hu
    rcases List.mem_append.mp hu with hu | hu
    · obtain ⟨c, hc, rfl⟩ := List.mem_map.mp hu; exact p.k2 c hc
    · obtain ⟨c, hc, rfl⟩ := List.mem_map.mp hu; have := h.hi c hc; simp; omega
/-- the writes -/
def evW (ps : List Pl) (f z : Nat) (key am : Int) : List Wr := trWs (evT ps f z key) ++ [((newAim ps f z key : Int), some (key, am))]
theorem ev_safe (h : EvOk ps f z key) (am : Int) {ws : List Wr} {F : List Pl → Prop} (k : ∀ s, On (trA (evT ps f z key)) s → s.length = ps.length → Safe2 (things ps) ws s F) : Safe2 (things ps) (trWs (evT ps f z key) ++ ws) ps F := by
  rw [← evT_T (ps := ps) (f := f) (z := z) (key := key)] at k ⊢
  exact moves_safe2 (by rw [evT_P]; exact cells_on ps) (evT_srt h) (evT_lt h) k
/-- a shelf's end behind all writes -/
theorem Safe2.last {ts : List Th} : ∀ {ws : List Wr} {s : List Pl} {F : List Pl → Prop}, Safe2 ts ws s F → F (doneP s ws)
  | [], s, F, h => h
  | w :: ws, s, F, h => Safe2.last (ws := ws) (F := F) h.2.2.2.2
theorem ev_done (h : EvOk ps f z key) (am : Int) : On (finC ps f z (key, am)) (doneP ps (evW ps f z key am)) := by
  have h1 := ev_safe (ws := []) (F := fun s => On (trA (evT ps f z key)) s ∧ s.length = ps.length) h am fun s hs hl => ⟨hs, hl⟩
  rw [List.append_nil] at h1
  have h2 := Safe2.last h1
  unfold evW
  rw [doneP_app]
  simp only [doneP]
  have := (ev_last h am h2.1 h2.2).2.2
  simpa using this
end
/-! ### raise -/
/-- an own exception class, without a field -/
def Xc (K : PySem.W.Frag) (mg : Str → Option Value) (x : Str) : Prop :=
  ∃ C, mg x = some (.ref C) ∧ PySem.W.excIn K C [.type "ValueError", .type "Exception", .type "BaseException", .type "object"] "ValueError.__new__" = true ∧ PySem.W.keepIn K (.ref C) = true ∧ PySem.W.subIn K (.ref C) (.type "BaseException") = some true ∧ PySem.W.typeIn K (.ref C) = some (.type "type")
def wsRaise (x : Str) : WS := fun ρ S _ E => E x ρ S
theorem ss_raise {X : Cx} {WW : WX} {x m : Str} {j : Nat} {p p2 pos pos2 : Pos} (hc : X.calm = true) (tk : Takes X WW) (xc : Xc X.K X.mg x) (hg : Gl X x) (hdb : (x == ("__debug__" : Str)) = false := by decide) :
    PS X (.Raise (some (.Call (.Name x p) [.Constant (.str m) j p2] [] pos)) none pos2) (tsm X.K X.mg WW (wsRaise x)) := by
  obtain ⟨C, gC, xC, kC, bC, tC⟩ := xc
  refine PS.conv (ps_raise hc tk (pmk_own PySem.F.excBase_ValueError xC gC kC (raises_own bC tC) hg hdb)) fun D σ H ⟨φ, ρ, S, rs, re, D', E', hw, hn, hr, hx⟩ => ?_
  exact hx x ρ S hw (.ref C) φ H σ Ext.refl rs re gC
@[simp] theorem e_raise {x : Str} {ρ : DEnv} {S : Store} {D : DEnds} {E : PX} : wsRaise x ρ S D E = E x ρ S := rfl
/-! ### try .. except T as e -/
def wsTryAs (i : Nat) (cs : List Str) (wb : WS) (suite : Str → Addr → WS) : WS := fun ρ S D E => wb ρ S D (fun c ρ1 S1 => c ∈ cs ∧ ∀ a, suite c a (ρ1.set i (some (.adr a))) S1 ⟨fun ρ2 S2 => D.nx (ρ2.set i none) S2, D.rt⟩ NoE)
def wsTryOnly (cs : List Str) (wb : WS) (suite : WS) : WS := fun ρ S D E => wb ρ S D (fun c ρ1 S1 => c ∈ cs ∧ suite ρ1 S1 D NoE)
@[simp] theorem e_tryAs {i : Nat} {cs : List Str} {wb : WS} {suite : Str → Addr → WS} {ρ : DEnv} {S : Store} {D : DEnds} {E : PX} : wsTryAs i cs wb suite ρ S D E = wb ρ S D (fun c ρ1 S1 => c ∈ cs ∧ ∀ a, suite c a (ρ1.set i (some (.adr a))) S1 ⟨fun ρ2 S2 => D.nx (ρ2.set i none) S2, D.rt⟩ NoE) := rfl
@[simp] theorem e_tryOnly {cs : List Str} {wb suite : WS} {ρ : DEnv} {S : Store} {D : DEnds} {E : PX} : wsTryOnly cs wb suite ρ S D E = wb ρ S D (fun c ρ1 S1 => c ∈ cs ∧ suite ρ1 S1 D NoE) := rfl
/-- the clause's class s takes those of cs -/
def XT (K : PySem.W.Frag) (mg : Str → Option Value) (s : Str) (cs : List Str) : Prop := ∃ S, mg s = some (.ref S) ∧ ∀ c ∈ cs, ∃ C, mg c = some (.ref C) ∧ PySem.W.exmOne K (.ref C) (.ref S) = some true
theorem adr_rd {K : PySem.W.Frag} {φ : List Addr} {H : Hp} {a : Addr} : RD K φ H (.adr a) (.ref a) := by simp only [RD]
theorem ss_try_as {X : Cx} {WW : WX} {x n : Str} {i : Nat} {body suite : List Stmt} {b₀ : Stmt} {np pos pos' : Pos} {wb : WS} {ws : Str → Addr → WS} {cs : List Str} (hs : X.stack = X.env :: X.outer) (hf : X.env.frame = some X.env.locals) (hN : X.N.Nodup) (hi : X.N[i]? = some n) (hln : X.env.kindOf n = some .local)
    (hg : Gl X x) (xt : XT X.K X.mg x cs) (tk : Takes X WW)
    (hb : ∀ (W : WX) (pn : List (Addr × Obj)) (xe : Value → Shared → Prop), Takes (X.tr pn xe) W → PassesOwn (model X.prog X.w) X.A X.env xe → PSs (X.tr pn xe) body (tsm X.K X.mg W wb))
    (hsu : ∀ (c : Str) (C : Addr), c ∈ cs → X.mg c = some (.ref C) → ∀ (a : Addr) (oe : Obj) (pn : List (Addr × Obj)), Zc (.ref C) none oe → (∃ vs, oe.data = .fields vs) → PSs (X.suite a ((a, oe) :: pn)) (b₀ :: suite) (tsm X.K X.mg NoW (ws c a)))
    (hdb : (x == ("__debug__" : Str)) = false := by decide) :
    PS X (.Try body [.ExceptHandler (some (.Name x np)) (some n) (b₀ :: suite) pos'] [] [] pos) (tsm X.K X.mg WW (wsTryAs i cs wb ws)) := by
  obtain ⟨S, gS, xt⟩ := xt
  refine PS.conv (ps_try_as (c := .ref S) (ts := fun a cls d D σ H => ∃ c C, c ∈ cs ∧ X.mg c = some (.ref C) ∧ cls = .ref C ∧ d = none ∧ tsm X.K X.mg NoW (ws c a) D σ H) hs hf hN hi hln ⟨hg, hdb, .inl gS⟩ tk hb ?_) ?_
  · intro a oe cls d pn hz hv
    refine ⟨fun pins s σ H D I h => ?_⟩
    obtain ⟨c, C, hc, hm, rfl, rfl, q⟩ := h
    exact (hsu c C hc hm a oe pn hz hv).run pins s σ H D I q
  · rintro D σ H ⟨φ, ρ, St, rs, re, D', E', hw, hn, hr, hx⟩
    refine ⟨φ, ρ, St, rs, re, D', _, hw, hn, hr, fun c ρ1 S1 hcs u φ1 H1 σ1 x1 rs1 re1 m => ?_⟩
    obtain ⟨hc, hq⟩ := hcs
    obtain ⟨C, gC, e⟩ := xt c hc
    rw [gC] at m
    cases m
    refine ⟨true, e, fun _ a _ => ⟨c, C, hc, gC, rfl, rfl, φ1, _, S1, rs1, re1.set adr_rd i, _, _, hq a, fun ρ2 S2 h2 σ2 φ2 H2 x2 rs2 re2 => ?_, fun d S2 h2 v φ2 H2 x2 rs2 rd2 => hr d S2 h2 v φ2 H2 (x1.trans x2) rs2 rd2, fun _ _ _ z => z.elim⟩, fun z => nomatch z⟩
    exact hn _ _ h2 _ _ _ (x1.trans x2) rs2 (re2.none i)
theorem ss_try_only {X : Cx} {WW : WX} {x : Str} {body suite : List Stmt} {b₀ : Stmt} {np pos pos' : Pos} {wb ws : WS} {cs : List Str} (hs : X.stack = X.env :: X.outer) (hf : X.env.frame = some X.env.locals)
    (hg : Gl X x) (xt : XT X.K X.mg x cs) (tk : Takes X WW)
    (hb : ∀ (W : WX) (pn : List (Addr × Obj)) (xe : Value → Shared → Prop), Takes (X.tr pn xe) W → PassesOwn (model X.prog X.w) X.A X.env xe → PSs (X.tr pn xe) body (tsm X.K X.mg W wb))
    (hsu : ∀ (a : Addr) (pn : List (Addr × Obj)), PSs (X.suite a pn) (b₀ :: suite) (tsm X.K X.mg NoW ws))
    (hdb : (x == ("__debug__" : Str)) = false := by decide) :
    PS X (.Try body [.ExceptHandler (some (.Name x np)) none (b₀ :: suite) pos'] [] [] pos) (tsm X.K X.mg WW (wsTryOnly cs wb ws)) := by
  obtain ⟨S, gS, xt⟩ := xt
  refine PS.conv (ps_try_only (c := .ref S) (ts := fun a cls d => tsm X.K X.mg NoW ws) hs hf ⟨hg, hdb, .inl gS⟩ tk hb (fun a oe cls d pn _ _ => hsu a _)) ?_
  rintro D σ H ⟨φ, ρ, St, rs, re, D', E', hw, hn, hr, hx⟩
  refine ⟨φ, ρ, St, rs, re, D', _, hw, hn, hr, fun c ρ1 S1 hcs u φ1 H1 σ1 x1 rs1 re1 m => ?_⟩
  obtain ⟨hc, hq⟩ := hcs
  obtain ⟨C, gC, e⟩ := xt c hc
  rw [gC] at m
  cases m
  exact ⟨true, e, fun _ a _ => ⟨φ1, _, S1, rs1, re1, D', _, hq, fun ρ2 S2 h2 σ2 φ2 H2 x2 rs2 re2 => hn _ _ h2 _ _ _ (x1.trans x2) rs2 re2, fun d S2 h2 v φ2 H2 x2 rs2 rd2 => hr d S2 h2 v φ2 H2 (x1.trans x2) rs2 rd2, fun _ _ _ z => z.elim⟩, fun z => nomatch z⟩
/-! ### isinstance of the caught one -/
def isub (c t : Str) : Bool := decide (c = t)
/-- what the classes of cs must say, so that isinstance asks rightly for those of Ts -/
def XI (K : PySem.W.Frag) (mg : Str → Option Value) (cs Ts : List Str) : Prop := ∀ c ∈ cs, ∃ C, mg c = some (.ref C) ∧ ExcC K C ∧ PySem.W.kitOne K (.ref C) (.type "ValueError") = some true ∧ ∀ t ∈ Ts, ∃ T, mg t = some (.ref T) ∧ PySem.W.kitOne K (.ref C) (.ref T) = some (isub c t)
def wIsE (i : Nat) (a : Addr) (b : Bool) : W := fun ρ S Q _ => ρ[i]? = some (some (.adr a)) ∧ Q (.bl b) S
@[simp] theorem e_isE {i : Nat} {a : Addr} {b : Bool} {ρ : DEnv} {S : Store} {Q : PQ} {E : PX} : wIsE i a b ρ S Q E = (ρ[i]? = some (some (.adr a)) ∧ Q (.bl b) S) := rfl
/-- isinstance(e, (c1, c2, ..)) of the caught one -/
def rIsET (K : PySem.W.Frag) (D a : Addr) : List V → Hp → VK → Prop := fun xs H Q => ∃ (tp : Addr) (cs : List V) (us : List Value) (b : Bool), xs = [.ref a, .ref tp] ∧ H tp = some (.tup cs) ∧ Paired ClsV cs us ∧ PySem.W.kitAny K (.ref D) us = some b ∧ Q (.bl b) H
theorem call_isET {X : Cx} {a D : Addr} {oe : Obj} {pn : List (Addr × Obj)} (C : ExcC X.K D) (hz : Zc (.ref D) none oe) (hf : ∃ vs, oe.data = .fields vs) : CallR (X.suite a ((a, oe) :: pn)) (.builtin "isinstance") (rIsET X.K D a) := by
  intro pins s σ H xs us Q I r h
  obtain ⟨tp, cs, ws, b, rfl, hT, k, e, q⟩ := h
  obtain ⟨u1, u2, rfl, r1, r2⟩ := vals2 r
  cases (show u2 = Value.ref tp from r2)
  cases (show u1 = Value.ref a from r1)
  obtain ⟨hget, _⟩ := I.pin (a, oe) (List.mem_append.mpr (.inl List.mem_cons_self))
  obtain ⟨vs, hv⟩ := hf
  have J : PySem.W.InstAt s.heap a oe D none := by
    obtain ⟨oc, od, oda, osl⟩ := oe
    obtain ⟨h1, h2⟩ := hz
    dsimp only at h1 h2 hv
    subst h1 h2 hv
    exact ⟨hget, rfl, rfl, trivial⟩
  obtain ⟨_, its, rv, o, h1, h2, n, h3⟩ := (show ObjOk X.prog X.w H s.heap tp (.tup cs) from I.hok tp _ hT)
  have e3 := ClsV.all k rv
  subst e3
  obtain ⟨oc, od, dt, sl⟩ := o
  simp only at h2 h3
  subst h2 h3
  exact PySem.W.kia_tup (PySem.W.handS_kitx_exc C.hg C.hk C.hs C.hd C.ha C.hn C.ht C.hm) I.kIn J h1 e (fun z => nomatch z) fun tk => ⟨.bl b, H, I.kept (t' := tk) fun _ _ z => z, rfl, q⟩
section
variable {X : Cx} {a C : Addr} {oe : Obj} {pn : List (Addr × Obj)} {cs Ts : List Str} {c : Str} {p p1 p2 p3 pos : Pos} {i : Nat} {n : Str}
theorem XI.of (xi : XI X.K X.mg cs Ts) (hc : c ∈ cs) (hm : X.mg c = some (.ref C)) : ExcC X.K C ∧ PySem.W.kitOne X.K (.ref C) (.type "ValueError") = some true ∧ ∀ t ∈ Ts, ∃ T, X.mg t = some (.ref T) ∧ PySem.W.kitOne X.K (.ref C) (.ref T) = some (isub c t) := by
  obtain ⟨C', h1, h⟩ := xi c hc
  rw [hm] at h1
  cases h1
  exact h
theorem isE_go {te : TA} {r : List V → Hp → VK → Prop} {b : Bool} {Y : Cx} (h : ∀ φ ρ S σ H (Q : VK), RS Y.K Y.mg φ S H → RE Y.K φ H ρ σ → ρ[i]? = some (some (.adr a)) → (∀ φ' H', Ext φ H φ' H' → RS Y.K Y.mg φ' S H' → Q (.bl b) H') → te σ H fun vs H1 => r vs H1 Q) (σ : L2.St) (H : Hp) (Q : VK) (q : tm Y.K Y.mg NoW (wIsE i a b) σ H Q) : tCB r te σ H Q := by
  obtain ⟨φ, ρ, S, rs, re, Q', E', ⟨h1, h2⟩, hn, hx⟩ := q
  exact h φ ρ S σ H Q rs re h1 fun φ' H' x rs' => hn _ _ h2 _ _ _ x rs' RD.bl
theorem RE.adr {K : PySem.W.Frag} {φ : List Addr} {H : Hp} {ρ : DEnv} {σ : L2.St} (re : RE K φ H ρ σ) {j : Nat} {a : Addr} (h : ρ[j]? = some (some (.adr a))) : σ[j]? = some (some (.ref a)) := by
  obtain ⟨v, e, r⟩ := re.get j _ h
  have : v = .ref a := by simpa only [RD] using r
  rw [e, this]
theorem se_isE {x : Str} (xi : XI X.K X.mg cs Ts) (hc : c ∈ cs) (hm : X.mg c = some (.ref C)) (hz : Zc (.ref C) none oe) (hf : ∃ vs, oe.data = .fields vs) (ht : x ∈ Ts) (hgi : Gl X "isinstance") (hmi : X.mg "isinstance" = none) (hgx : Gl X x)
    (hN : X.N[i]? = some n := by rfl) (hv : Vis X.env.scope n := by first | exact Or.inl rfl | exact Or.inr (Or.inl rfl) | exact Or.inr (Or.inr rfl)) (hd : (n == ("__debug__" : Str)) = false := by decide)
    (hcd : (n == ("__classdict__" : Str)) = false := by decide) (hdx : (x == ("__debug__" : Str)) = false := by decide)
    (hs1 : starEach [.Name n p1, .Name x p2] X.env = (false, eval (.Name n p1) X.env) :: starEach [.Name x p2] X.env := by rfl) (hs2 : starEach [.Name x p2] X.env = (false, eval (.Name x p2) X.env) :: starEach [] X.env := by rfl) (hpl : (backTo pos (starEach [.Name x p2] X.env)).any (·.1) = false := by rfl) :
    PE (X.suite a ((a, oe) :: pn)) (.Call (.Name "isinstance" p) [.Name n p1, .Name x p2] [] pos) (tm X.K X.mg NoW (wIsE i a (isub c x))) := by
  obtain ⟨ec, _, hk⟩ := xi.of hc hm
  obtain ⟨T, gT, kT⟩ := hk x ht
  refine PE.conv (pe_callB (X := X.suite a ((a, oe) :: pn)) (call_isE ec hz hf) hgi hmi PyProof.Rows.boot_isinstance (pa_cons (pv i hN hv hd hcd) (pa_cons (pe_glob (v := .ref T) hgx gT rfl hdx) pa_nil hs2) hs1) (by decide) (by decide) hs1 hpl) ?_
  refine isE_go (Y := X) fun φ ρ S σ H Q rs re h1 q => ?_
  refine ⟨.ref a, re.adr h1, .ref T, .ref T, _, rfl, fun u r => r, kT, q _ _ Ext.refl rs⟩
theorem se_isEV (xi : XI X.K X.mg cs Ts) (hc : c ∈ cs) (hm : X.mg c = some (.ref C)) (hz : Zc (.ref C) none oe) (hf : ∃ vs, oe.data = .fields vs) (hgi : Gl X "isinstance") (hmi : X.mg "isinstance" = none) (hgx : Gl X "ValueError") (hmx : X.mg "ValueError" = none)
    (hN : X.N[i]? = some n := by rfl) (hv : Vis X.env.scope n := by first | exact Or.inl rfl | exact Or.inr (Or.inl rfl) | exact Or.inr (Or.inr rfl)) (hd : (n == ("__debug__" : Str)) = false := by decide)
    (hcd : (n == ("__classdict__" : Str)) = false := by decide)
    (hs1 : starEach [.Name n p1, .Name "ValueError" p2] X.env = (false, eval (.Name n p1) X.env) :: starEach [.Name "ValueError" p2] X.env := by rfl) (hs2 : starEach [.Name "ValueError" p2] X.env = (false, eval (.Name "ValueError" p2) X.env) :: starEach [] X.env := by rfl) (hpl : (backTo pos (starEach [.Name "ValueError" p2] X.env)).any (·.1) = false := by rfl) :
    PE (X.suite a ((a, oe) :: pn)) (.Call (.Name "isinstance" p) [.Name n p1, .Name "ValueError" p2] [] pos) (tm X.K X.mg NoW (wIsE i a true)) := by
  obtain ⟨ec, hk, _⟩ := xi.of hc hm
  refine PE.conv (pe_callB (X := X.suite a ((a, oe) :: pn)) (call_isE ec hz hf) hgi hmi PyProof.Rows.boot_isinstance (pa_cons (pv i hN hv hd hcd) (pa_cons (pe_bltn (v := .ty "ValueError") hgx hmx (by decide +kernel) rfl) pa_nil hs2) hs1) (by decide) (by decide) hs1 hpl) ?_
  refine isE_go (Y := X) fun φ ρ S σ H Q rs re h1 q => ?_
  refine ⟨.ref a, re.adr h1, .ty "ValueError", .type "ValueError", _, rfl, fun u r => r, hk, q _ _ Ext.refl rs⟩
/-- a tuple of classes -/
inductive CT (X Y : Cx) (Ts : List Str) (c : Str) (C : Addr) : List Expr → Bool → Prop where
  | nil : CT X Y Ts c C [] false
  | cons {x : Str} {pos : Pos} {es : List Expr} {b : Bool} (ht : x ∈ Ts) (hgx : Gl X x) (hdx : (x == ("__debug__" : Str)) = false) (hst : starEach (.Name x pos :: es) X.env = (false, eval (.Name x pos) X.env) :: starEach es X.env) : CT X Y Ts c C es b → CT X Y Ts c C (.Name x pos :: es) (isub c x || b)
theorem CT.pa (hk : ∀ t ∈ Ts, ∃ T, X.mg t = some (.ref T) ∧ PySem.W.kitOne X.K (.ref C) (.ref T) = some (isub c t)) : ∀ {es : List Expr} {b : Bool}, CT X (X.suite a ((a, oe) :: pn)) Ts c C es b →
    ∃ vs us, PA (X.suite a ((a, oe) :: pn)) es (fun σ H Q => Q vs H) ∧ Paired ClsV vs us ∧ PySem.W.kitAny X.K (.ref C) us = some b ∧ vs.length = es.length
  | _, _, .nil => ⟨[], [], pa_nil, .nil, rfl, rfl⟩
  | _, _, .cons (x := x) ht hgx hdx hst h => by
    obtain ⟨vs, us, h1, h2, h3, h4⟩ := CT.pa hk h
    obtain ⟨T, gT, kT⟩ := hk x ht
    refine ⟨.ref T :: vs, .ref T :: us, PA.conv (pa_cons (pe_glob (X := X.suite a ((a, oe) :: pn)) (v := .ref T) hgx gT rfl hdx) h1 hst) fun σ H Q q => q, .cons (.own T) h2, ?_, by simp [h4]⟩
    refine kitAny_cons kT (fun e => ?_) (fun e => by rw [e]; rfl)
    rw [e]; exact h3
theorem se_isET {es : List Expr} {k : Nat} {b : Bool} (xi : XI X.K X.mg cs Ts) (hc : c ∈ cs) (hm : X.mg c = some (.ref C)) (hz : Zc (.ref C) none oe) (hf : ∃ vs, oe.data = .fields vs) (ct : CT X (X.suite a ((a, oe) :: pn)) Ts c C es b) (hl : es.length ≤ 1000) (hgi : Gl X "isinstance") (hmi : X.mg "isinstance" = none)
    (hN : X.N[i]? = some n := by rfl) (hv : Vis X.env.scope n := by first | exact Or.inl rfl | exact Or.inr (Or.inl rfl) | exact Or.inr (Or.inr rfl)) (hd : (n == ("__debug__" : Str)) = false := by decide)
    (hcd : (n == ("__classdict__" : Str)) = false := by decide)
    (hs1 : starEach [.Name n p1, .Tuple es k p2] X.env = (false, eval (.Name n p1) X.env) :: starEach [.Tuple es k p2] X.env := by rfl) (hs2 : starEach [.Tuple es k p2] X.env = (false, eval (.Tuple es k p2) X.env) :: starEach [] X.env := by rfl) (hpl : (backTo pos (starEach [.Tuple es k p2] X.env)).any (·.1) = false := by rfl) :
    PE (X.suite a ((a, oe) :: pn)) (.Call (.Name "isinstance" p) [.Name n p1, .Tuple es k p2] [] pos) (tm X.K X.mg NoW (wIsE i a b)) := by
  obtain ⟨ec, _, hk⟩ := xi.of hc hm
  obtain ⟨vs, us, h1, h2, h3, h4⟩ := ct.pa hk
  refine PE.conv (pe_callB (X := X.suite a ((a, oe) :: pn)) (call_isET ec hz hf) hgi hmi PyProof.Rows.boot_isinstance (pa_cons (pv i hN hv hd hcd) (pa_cons (pe_tup h1) pa_nil hs2) hs1) (by decide) (by decide) hs1 hpl) ?_
  refine isE_go (Y := X) fun φ ρ S σ H Q rs re e1 q => ?_
  refine ⟨.ref a, re.adr e1, by rw [h4]; exact Nat.le_of_lt (small1000 hl), fun p hp => ?_⟩
  refine ⟨p, vs, us, b, rfl, upd_same, h2, h3, ?_⟩
  exact q φ _ (Ext.laid rs hp) (rs.laid hp)
end
/-! the facts, from those that k_is finds -/
theorem kit_self {K : PySem.W.Frag} {t : Value} : PySem.W.kitOne K t t = some true := by
  unfold PySem.W.kitOne
  rw [if_pos (by simp)]
theorem kit_ref {K : PySem.W.Frag} {C T : Addr} {b : Bool} (ne : (Value.ref C == Value.ref T) = false) (hd : PySem.W.hasDictIn K T = true) (ht : PySem.W.typeIn K (.ref T) = some (.type "type")) (h : PySem.W.subIn K (.ref C) (.ref T) = some b) : PySem.W.kitOne K (.ref C) (.ref T) = some b := by
  obtain ⟨cd, hc, _⟩ := PySem.W.any_some hd
  unfold PySem.W.kitOne
  rw [ne, if_neg Bool.false_ne_true]
  have e2 : ((PySem.W.clsIn K T).isSome && PySem.W.typeIn K (.ref T) == some (.type "type")) = true := by rw [hc, ht] <;> rfl
  show (if ((PySem.W.clsIn K T).isSome && PySem.W.typeIn K (.ref T) == some (.type "type")) = true then PySem.W.subIn K (.ref C) (.ref T) else none) = some b
  rw [if_pos e2]; exact h
theorem kit_VE {K : PySem.W.Frag} {C : Addr} (h : PySem.W.subIn K (.ref C) (.type "ValueError") = some true) : PySem.W.kitOne K (.ref C) (.type "ValueError") = some true := by
  unfold PySem.W.kitOne
  have ne : (Value.ref C == Value.type "ValueError") = false := rfl
  rw [ne, if_neg Bool.false_ne_true]
  show (if PySem.W.kitMeta "ValueError" = true then PySem.W.subIn K (.ref C) (.type "ValueError") else none) = some true
  rw [if_pos (by decide +kernel)]; exact h
/-! ### the lists that evened makes -/
theorem srtN_eq {a b : List Nat} (ha : a.Pairwise (· < ·)) (hb : b.Pairwise (· < ·)) (h : ∀ c, c ∈ a ↔ c ∈ b) : a = b := by
  have na : a.Nodup := List.Pairwise.imp (fun h e => by subst e; omega) ha
  have nb : b.Nodup := List.Pairwise.imp (fun h e => by subst e; omega) hb
  have hp := (List.perm_ext_iff_of_nodup na nb).mpr h
  exact hp.eq_of_pairwise (le := fun x y : Nat => x < y) (fun x y _ _ h1 h2 => by omega) ha hb
theorem fullN_srt (ps : List Pl) : (fullN ps).Pairwise (· < ·) := List.pairwise_lt_range.filter _
theorem fullN_mem {ps : List Pl} {p : Nat} : p ∈ fullN ps ↔ fullAt ps p = true := by
  unfold fullN
  rw [List.mem_filter]
  constructor
  · exact fun h => h.2
  · intro h
    refine ⟨?_, h⟩
    unfold fullAt at h
    split at h
    · rename_i u hu
      simpa using (List.getElem?_eq_some_iff.mp hu).1
    · cases h
theorem csM_fst (ps : List Pl) (f z : Nat) : (csM ps f z).map (·.1) = (fullN ps).filter fun p => decide (f ≤ p ∧ p < f + z) := by
  unfold csM cells
  rw [List.filter_map, List.map_map]
  first | done | simp [Function.comp_def]
theorem places_eq {ps : List Pl} {f z : Nat} (h : f + z ≤ ps.length) : (List.range z).filterMap (fun i => if fullAt ps (f + i) = true then some (f + i) else none) = (csM ps f z).map (·.1) := by
  rw [csM_fst]
  have e : (List.range z).filterMap (fun i => if fullAt ps (f + i) = true then some (f + i) else none) = ((List.range z).map (f + ·)).filter (fullAt ps) := by
    rw [← List.filterMap_eq_map, ← List.filterMap_eq_filter, List.filterMap_filterMap]
    congr 1
    try (funext i; by_cases h : fullAt ps (f + i) = true <;> simp [h, Option.guard])
  rw [e]
  refine srtN_eq ?_ ((fullN_srt ps).filter _) fun c => ?_
  · refine List.Pairwise.filter _ ?_
    rw [List.pairwise_map]
    exact List.pairwise_lt_range.imp fun h => by omega
  · simp only [List.mem_filter, List.mem_map, List.mem_range, fullN_mem, decide_eq_true_eq]
    constructor
    · rintro ⟨⟨i, hi, rfl⟩, h2⟩
      exact ⟨h2, by omega, by omega⟩
    · rintro ⟨h1, h2, h3⟩
      exact ⟨⟨c - f, by omega, by omega⟩, h1⟩
theorem csM_at {ps : List Pl} {f z : Nat} {c : Nat × Th} (h : c ∈ csM ps f z) : ps[c.1]? = some (some c.2) ∧ plAt ps c.1 = some c.2 ∧ c.1 < ps.length ∧ f ≤ c.1 ∧ c.1 < f + z := by
  have h1 := (List.mem_filter.mp h).1
  have h2 := (List.mem_filter.mp h).2
  have e := ((cells_on ps).mem_iff c).mp h1
  simp at h2
  exact ⟨e, by simp [plAt, List.getD, e], (List.getElem?_eq_some_iff.mp e).1, h2.1, h2.2⟩
theorem aims_tgs (f z n : Nat) : (tgs (n : Int) (z : Int)).map (fun a => (f : Int) + a) = (aimsN f z n).map fun a : Nat => (a : Int) := by
  unfold tgs aimsN
  rw [List.map_map, List.map_map, Int.toNat_natCast]
  refine List.map_congr_left fun k _ => ?_
  simp [tg, aimAt, Function.comp_def]
theorem movesF_ev {ps : List Pl} {f z : Nat} {key : Int} : wrsOf ps (movesF (((csM ps f z).map fun c : Nat × Th => (c.1 : Int)).zip ((othersN ps f z key).map fun a : Nat => (a : Int)))) = trWs (evT ps f z key) := by
  have hz : (((csM ps f z).map fun c : Nat × Th => (c.1 : Int)).zip ((othersN ps f z key).map fun a : Nat => (a : Int))) = (((csM ps f z).zip (othersN ps f z key)).map goTr).map fun x : Tr => ((x.1 : Int), (x.2.1 : Int)) := by
    rw [List.map_map, List.zip_map]; rfl
  have ho : ∀ cs : Cs, (cs.map stay).filter onw = [] := fun cs => List.filter_eq_nil_iff.mpr fun x hx => by
    obtain ⟨c, _, rfl⟩ := List.mem_map.mp hx; simp [onw, stay]
  have hb : ∀ cs : Cs, (cs.map stay).filter bkw = [] := fun cs => List.filter_eq_nil_iff.mpr fun x hx => by
    obtain ⟨c, _, rfl⟩ := List.mem_map.mp hx; simp [bkw, stay]
  have e0 : trWs (evT ps f z key) = trWs (((csM ps f z).zip (othersN ps f z key)).map goTr) := by
    unfold trWs evT
    simp only [List.filter_append, ho, hb, List.nil_append, List.append_nil]
  rw [e0, hz]
  have hmem : ∀ x ∈ ((csM ps f z).zip (othersN ps f z key)).map goTr, plAt ps x.1 = some x.2.2 := by
    intro x hx
    obtain ⟨⟨c, a⟩, h, rfl⟩ := List.mem_map.mp hx
    exact (csM_at (List.of_mem_zip h).1).2.1
  generalize ((csM ps f z).zip (othersN ps f z key)).map goTr = T at *
  have hm : movesF (T.map fun x : Tr => ((x.1 : Int), (x.2.1 : Int))) = ((T.filter onw).reverse ++ T.filter bkw).map fun x => ((x.1 : Int), (x.2.1 : Int)) := by
    unfold movesF
    rw [List.filter_map, List.filter_map, List.map_append, List.map_reverse]
    have e1 : ((fun x : Mv => decide (x.1 < x.2)) ∘ fun x : Tr => ((x.1 : Int), (x.2.1 : Int))) = onw := by
      funext x; simp [onw]
    have e2 : ((fun x : Mv => decide (x.2 < x.1)) ∘ fun x : Tr => ((x.1 : Int), (x.2.1 : Int))) = bkw := by
      funext x; simp [bkw]
    rw [e1, e2]
  have hg : ∀ l : List Tr, (∀ x ∈ l, x ∈ T) → wrsOf ps (l.map fun x => ((x.1 : Int), (x.2.1 : Int))) = l.flatMap trW := by
    intro l
    induction l with
    | nil => intro _; rfl
    | cons x l ih =>
      intro h
      have e := hmem x (h x (by simp))
      have := ih fun y hy => h y (by simp [hy])
      unfold wrsOf at this ⊢
      simp only [List.map_cons, List.flatMap_cons, this]
      simp [trW, e]
  rw [hm, hg _ (fun x hx => by
    rcases List.mem_append.mp hx with h | h
    · exact (List.mem_filter.mp (List.mem_reverse.mp h)).1
    · exact (List.mem_filter.mp h).1)]
  unfold trWs
  rw [List.flatMap_append]
theorem atN_cs (ps : List Pl) (f z : Nat) (key : Int) : (((csM ps f z).map fun c : Nat × Th => (c.1 : Int)).filter fun p => lessAt ps key p.toNat).length = atN ps f z key := by
  unfold atN
  rw [List.filter_map, List.length_map]
  congr 1
  refine List.filter_congr fun c hc => ?_
  have := (csM_at hc).1
  simp [lessAt, this, lessC]
/-! ### where the seat lies -/
theorem seatN_spec (ps : List Pl) (key : Int) : ∀ n, n ≤ ps.length → (∀ p, p < n → lessAt ps key p = true → p ≤ seatN ps key n) ∧ (lessAt ps key (seatN ps key n) = true ∨ seatN ps key n = 0)
  | 0, _ => ⟨fun p hp => by omega, .inr rfl⟩
  | n + 1, h => by
    have ih := seatN_spec ps key n (by omega)
    unfold seatN
    split
    · rename_i hl
      exact ⟨fun p hp _ => by omega, .inl hl⟩
    · rename_i hl
      refine ⟨fun p hp hlp => ?_, ih.2⟩
      by_cases e : p = n
      · subst e; exact absurd hlp hl
      · exact ih.1 p (by omega) hlp
theorem cell_less {ps : List Pl} {key : Int} {c : Nat × Th} (h : c ∈ cells ps) : lessAt ps key c.1 = decide (c.2.1 < key) := by
  have e := ((cells_on ps).mem_iff c).mp h
  simp [lessAt, e]
theorem less_cell {ps : List Pl} {key : Int} {p : Nat} (h : lessAt ps key p = true) : ∃ t, (p, t) ∈ cells ps ∧ t.1 < key := by
  unfold lessAt at h
  split at h
  · rename_i t ht
    exact ⟨t, ((cells_on ps).mem_iff (p, t)).mpr ht, by simpa using h⟩
  · cases h
theorem cells_key_lt {ps : List Pl} (h : Rises (things ps)) {c d : Nat × Th} (hc : c ∈ cells ps) (hd : d ∈ cells ps) (hcd : c.1 < d.1) : c.2.1 < d.2.1 := by
  obtain ⟨i, hi, rfl⟩ := List.mem_iff_getElem.mp hc
  obtain ⟨j, hj, rfl⟩ := List.mem_iff_getElem.mp hd
  rcases Nat.lt_trichotomy i j with h1 | h1 | h1
  · exact List.pairwise_iff_getElem.mp (cells_keys h) i j hi hj h1
  · subst h1; omega
  · have := List.pairwise_iff_getElem.mp (cells_on ps).srt j i hj hi h1; omega
/-- a stretch with the seat in it may be evened -/
theorem evOk_of {ps : List Pl} {f z : Nat} {key : Int} (hr : Rises (things ps)) (hl : f + z ≤ ps.length) (hm : (csM ps f z).length + 1 ≤ z) (hn : ∀ t ∈ things ps, t.1 ≠ key) (h1 : f ≤ seatN ps key ps.length) (h2 : seatN ps key ps.length < f + z) : EvOk ps f z key := by
  have sp := seatN_spec ps key ps.length (Nat.le_refl _)
  refine ⟨hr, hl, hm, fun c hc => ?_, fun c hc => ?_, hn⟩
  · have hc1 := (List.mem_filter.mp hc).1
    have hc2 := (List.mem_filter.mp hc).2
    simp at hc2
    rcases sp.2 with h | h
    · obtain ⟨t, ht, hk⟩ := less_cell h
      have := cells_key_lt hr hc1 ht (by simp; omega)
      simp at this; omega
    · omega
  · have hc1 := (List.mem_filter.mp hc).1
    have hc2 := (List.mem_filter.mp hc).2
    simp at hc2
    have hlt := (cells_on ps).lt hc1
    have hne : c.2.1 ≠ key := hn c.2 (by rw [← cells_things]; exact List.mem_map.mpr ⟨c, hc1, rfl⟩)
    refine Classical.byContradiction fun hcon => ?_
    have : lessAt ps key c.1 = true := by rw [cell_less hc1]; simp; omega
    have := sp.1 c.1 hlt this
    omega
theorem place_none {ps : List Pl} {key : Int} (h : placeN ps key = none) : ∀ t ∈ things ps, t.1 ≠ key := by
  intro t ht e
  unfold placeN at h
  rw [List.find?_eq_none] at h
  rw [← cells_things] at ht
  obtain ⟨c, hc, rfl⟩ := List.mem_map.mp ht
  have e1 := ((cells_on ps).mem_iff c).mp hc
  have := h c.1 (by simpa using (List.getElem?_eq_some_iff.mp e1).1)
  simp [keyAt, e1, e] at this
theorem place_some {ps : List Pl} {key : Int} {p : Nat} (h : placeN ps key = some p) : ∃ t, ps[p]? = some (some t) ∧ t.1 = key := by
  unfold placeN at h
  have := List.find?_some h
  unfold keyAt at this
  split at this
  · rename_i t ht; exact ⟨t, ht, by simpa using this⟩
  · cases this
/-- what a stretch holds -/
theorem things_take (ps : List Pl) (n : Nat) : things (ps.take n) = ((cells ps).filter fun c => decide (c.1 < n)).map (·.2) := by
  have : On ((cells ps).filter fun c => decide (c.1 < n)) (ps.take n) := by
    refine ⟨fun c hc => ?_, fun x hx hc => ?_, (cells_on ps).srt.filter _⟩
    · have h1 := (List.mem_filter.mp hc).1
      have h2 := (List.mem_filter.mp hc).2
      simp at h2
      refine ⟨Nat.zero_le _, ?_⟩
      rw [List.getElem?_take_of_lt (by omega)]
      exact ((cells_on ps).mem_iff c).mp h1
    · simp at hx
      rw [List.getElem?_take_of_lt (show x < _ by omega)]
      refine (cells_on ps).no x (by omega) fun c hc' e => ?_
      refine hc c (List.mem_filter.mpr ⟨hc', by simp; omega⟩) e
  exact this.things
theorem things_drop_cells (ps : List Pl) (f : Nat) : things (ps.drop f) = ((cells ps).filter fun c => decide (f ≤ c.1)).map (·.2) := by
  have h1 : things ps = things (ps.take f) ++ things (ps.drop f) := by rw [← things_app, List.take_append_drop]
  have h2 := filter_le_split (fun c : Nat × Th => c.1) (cells ps) f (cells_on ps).srt
  have h3 := congrArg (List.map (·.2)) h2
  rw [cells_things, List.map_append, ← things_take, h1] at h3
  exact List.append_cancel_left h3
theorem things_stretch (ps : List Pl) (f z : Nat) : things ((ps.take (f + z)).drop f) = (csM ps f z).map (·.2) := by
  rw [things_drop_cells]
  have hc : cells (ps.take (f + z)) = (cells ps).filter fun c => decide (c.1 < f + z) := by
    refine (On.cells ?_).symm
    refine ⟨fun c hc => ?_, fun x hx hc => ?_, (cells_on ps).srt.filter _⟩
    · have h1 := (List.mem_filter.mp hc).1
      have h2 := (List.mem_filter.mp hc).2
      simp at h2
      refine ⟨Nat.zero_le _, ?_⟩
      rw [List.getElem?_take_of_lt (by omega)]
      exact ((cells_on ps).mem_iff c).mp h1
    · simp at hx
      rw [List.getElem?_take_of_lt (show x < _ by omega)]
      refine (cells_on ps).no x (by omega) fun c hc' e => ?_
      refine hc c (List.mem_filter.mpr ⟨hc', by simp; omega⟩) e
  rw [hc, List.filter_filter]
  unfold csM
  congr 1
  apply List.filter_congr; intro c _; simp
/-! ### the stretch of a height -/
theorem szI_split {w : Int} {l h : Nat} (hl : l ≤ h) : szI w h = 2 ^ (h - l) * szI w l := by
  unfold szI
  rw [← Int.mul_assoc, ← Int.pow_add, show h - l + l = h by omega]
theorem stretch_in {w p : Int} {l h : Nat} (hl : l ≤ h) (hh : h ≤ 10) (h1 : 1 ≤ w) (h2 : w ≤ 1000) (hp : 0 ≤ p) (hp2 : p < szI w h) :
    0 ≤ fstI w l p ∧ fstI w l p ≤ p ∧ p < fstI w l p + szI w l ∧ fstI w l p + szI w l ≤ szI w h := by
  have hz := szI_pos (w := w) (l := l) (by omega) h1 h2
  have h0 := fstI_nonneg (p := p) (l := l) (by omega) h1 h2 hp
  have a1 : p / szI w l * szI w l ≤ p := Int.ediv_mul_le _ (by omega)
  have a2 : p < (p / szI w l + 1) * szI w l := Int.lt_ediv_add_one_mul_self _ (by omega)
  rw [Int.add_mul, Int.one_mul] at a2
  refine ⟨h0, a1, a2, ?_⟩
  have a3 : p / szI w l < 2 ^ (h - l) := Int.ediv_lt_of_lt_mul (by omega) (by rw [← szI_split hl]; exact hp2)
  have a4 : (p / szI w l + 1) * szI w l ≤ 2 ^ (h - l) * szI w l := Int.mul_le_mul_of_nonneg_right (by omega) (by omega)
  rw [← szI_split hl, Int.add_mul, Int.one_mul] at a4
  exact a4
def fN (ps : List Pl) (w : Int) (l : Nat) (key : Int) : Nat := (fstI w l (seatN ps key ps.length)).toNat
def zN (w : Int) (l : Nat) : Nat := (szI w l).toNat
theorem seat_lt {ps : List Pl} {key : Int} (h : 0 < ps.length) : seatN ps key ps.length < ps.length := seatN_lt ps key _ h
structure Geo (ps : List Pl) (w : Int) (h : Nat) : Prop where
  len : (ps.length : Int) = szI w h
  h10 : h ≤ 10
  w1 : 1 ≤ w
  w2 : w ≤ 1000
theorem Geo.pos {ps : List Pl} {w : Int} {h : Nat} (g : Geo ps w h) : 0 < ps.length := by
  have := szI_pos (w := w) (l := h) g.h10 g.w1 g.w2
  have := g.len; omega
theorem Geo.st {ps : List Pl} {w : Int} {h l : Nat} (g : Geo ps w h) (hl : l ≤ h) (key : Int) : ((fN ps w l key : Nat) : Int) = fstI w l (seatN ps key ps.length) ∧ ((zN w l : Nat) : Int) = szI w l ∧ 1 ≤ zN w l ∧ fN ps w l key ≤ seatN ps key ps.length ∧ seatN ps key ps.length < fN ps w l key + zN w l ∧ fN ps w l key + zN w l ≤ ps.length := by
  have hs := seat_lt (key := key) g.pos
  have hz := szI_pos (w := w) (l := l) (Nat.le_trans hl g.h10) g.w1 g.w2
  obtain ⟨a, b, c, d⟩ := stretch_in (p := (seatN ps key ps.length : Int)) hl g.h10 g.w1 g.w2 (by omega) (by rw [← g.len]; omega)
  have := g.len
  unfold fN zN
  refine ⟨by omega, by omega, by omega, by omega, by omega, by omega⟩
theorem heldI_eq {ps : List Pl} {w : Int} {h l : Nat} (g : Geo ps w h) (hl : l ≤ h) (key : Int) : heldI ps w (seatN ps key ps.length) l = (csM ps (fN ps w l key) (zN w l)).length := by
  obtain ⟨e1, e2, _⟩ := g.st hl key
  have e3 : (fstI w l (seatN ps key ps.length) + szI w l).toNat = fN ps w l key + zN w l := by omega
  unfold heldI
  rw [e3, show (fstI w l (seatN ps key ps.length)).toNat = fN ps w l key from rfl, things_stretch, List.length_map]
def capI (w s : Int) (l : Nat) : Int := 2 ^ l * (w - s * l)
theorem cap_le {w s : Int} {l : Nat} (hs : 0 ≤ s) : capI w s l ≤ szI w l := by
  unfold capI szI
  have h1 : (0 : Int) ≤ 2 ^ l := by exact_mod_cast Nat.zero_le _
  exact Int.mul_le_mul_of_nonneg_left (by have := Int.mul_nonneg hs (show (0 : Int) ≤ l by omega); omega) h1
/-- the least height with room, and that it has -/
theorem low_room {ps : List Pl} {w s p : Int} {h : Nat} (hh : roomAt ps w s p h = true) : lowN ps w s p h ≤ h ∧ roomAt ps w s p (lowN ps w s p h) = true ∧ ∀ j, j < lowN ps w s p h → roomAt ps w s p j = false := by
  cases e : (List.range h).find? (roomAt ps w s p) with
  | none =>
    have e1 : lowN ps w s p h = h := by simp [lowN, e]
    rw [e1]
    rw [List.find?_eq_none] at e
    exact ⟨Nat.le_refl _, hh, fun j hj => by simpa using e j (by simpa using hj)⟩
  | some i =>
    have e1 : lowN ps w s p h = i := by simp [lowN, e]
    rw [e1]
    rw [List.find?_range_eq_some] at e
    obtain ⟨h1, h2, h3⟩ := e
    simp at h2
    exact ⟨by omega, h1, fun j hj => by simpa using h3 j hj⟩
def lowK (ps : List Pl) (w s : Int) (h : Nat) (key : Int) : Nat := lowN ps w s (seatN ps key ps.length) h
def putW (ps : List Pl) (w s : Int) (h : Nat) (key am : Int) : Option (List Wr) := match placeN ps key with
  | some p => some [((p : Int), some (key, am))]
  | none => if ((things ps).length : Int) < capI w s h then some (evW ps (fN ps w (lowK ps w s h key) key) (zN w (lowK ps w s h key)) key am) else none
theorem top_all {ps : List Pl} {w : Int} {h : Nat} (g : Geo ps w h) (key : Int) : fN ps w h key = 0 ∧ zN w h = ps.length := by
  obtain ⟨e1, e2, e3, e4, e5, e6⟩ := g.st (Nat.le_refl h) key
  have := g.len
  constructor <;> omega
theorem csM_all (ps : List Pl) : csM ps 0 ps.length = cells ps := by
  unfold csM
  rw [List.filter_eq_self]
  intro c hc
  have := (cells_on ps).lt hc
  simp; omega
theorem room_top {ps : List Pl} {w s : Int} {h : Nat} (g : Geo ps w h) (key : Int) : roomAt ps w s (seatN ps key ps.length) h = decide (((things ps).length : Int) < capI w s h) := by
  unfold roomAt
  rw [heldI_eq g (Nat.le_refl h) key, (top_all g key).1, (top_all g key).2, csM_all, ← cells_things, List.length_map]
  rfl
structure Evens (ps : List Pl) (w s : Int) (h : Nat) (key : Int) : Prop where
  lh : lowK ps w s h key ≤ h
  ok : EvOk ps (fN ps w (lowK ps w s h key) key) (zN w (lowK ps w s h key)) key
  room : ((csM ps (fN ps w (lowK ps w s h key) key) (zN w (lowK ps w s h key))).length : Int) < capI w s (lowK ps w s h key)
  full : ∀ j, j < lowK ps w s h key → capI w s j ≤ ((csM ps (fN ps w j key) (zN w j)).length : Int)
theorem evens_of {ps : List Pl} {w s : Int} {h : Nat} {key : Int} (g : Geo ps w h) (hs : 0 ≤ s) (hr : Rises (things ps)) (hp : placeN ps key = none) (hc : ((things ps).length : Int) < capI w s h) : Evens ps w s h key := by
  have hrt : roomAt ps w s (seatN ps key ps.length) h = true := by rw [room_top g]; exact decide_eq_true hc
  obtain ⟨l1, l2, l3⟩ := low_room hrt
  change lowK ps w s h key ≤ h at l1
  change roomAt ps w s (seatN ps key ps.length) (lowK ps w s h key) = true at l2
  change ∀ j, j < lowK ps w s h key → _ at l3
  obtain ⟨e1, e2, e3, e4, e5, e6⟩ := g.st l1 key
  have hroom : ((csM ps (fN ps w (lowK ps w s h key) key) (zN w (lowK ps w s h key))).length : Int) < capI w s (lowK ps w s h key) := by
    unfold roomAt at l2
    rw [heldI_eq g l1 key] at l2
    simpa [capI] using l2
  have hcap := cap_le (w := w) (l := lowK ps w s h key) hs
  refine ⟨l1, evOk_of hr e6 (by omega) (place_none hp) e4 e5, hroom, fun j hj => ?_⟩
  have := l3 j hj
  unfold roomAt at this
  rw [heldI_eq g (by omega) key] at this
  simpa [capI] using this
/-! ### evened, a put, a take -/
abbrev wrL (S : Store) (ws : List Wr) : Store := S ++ [wrp ws]
def sp_evened : SPf
  | [.tup [.int _, .int w, .int s], .int l, .ref n, .int key, .int am], S, Q, _ => ∃ ps h, S[n]? = some (shp ps) ∧ ps.length ≤ 20000 ∧ Geo ps w h ∧ (0 ≤ l ∧ l.toNat ≤ h) ∧ Q (.ref S.length) (S ++ [wrp (evW ps (fN ps w l.toNat key) (zN w l.toNat) key am)])
  | _, _, _, _ => False
def sp_put_writes : SPf
  | [.tup [.int _, .int w, .int s], .int h, .ref n, .int key, .int am], S, Q, E => ∃ ps, S[n]? = some (shp ps) ∧ ps.length ≤ 20000 ∧ 0 ≤ h ∧ Geo ps w h.toNat ∧ match putW ps w s h.toNat key am with
    | some ws => Q (.ref S.length) (S ++ [wrp ws])
    | none => E "Full" S
  | _, _, _, _ => False
def sp_take_writes : SPf
  | [.ref n, .int key], S, Q, E => ∃ ps, S[n]? = some (shp ps) ∧ ps.length ≤ 20000 ∧ match placeN ps key with
    | some p => Q (.ref S.length) (S ++ [wrp [((p : Int), none)]])
    | none => E "NoKey" S
  | _, _, _, _ => False
theorem len_evened : ∀ ds S Q E, sp_evened ds S Q E → ds.length = 5 := by
  intro ds S Q E h; unfold sp_evened at h; split at h <;> first | rfl | exact h.elim
theorem len_put_writes : ∀ ds S Q E, sp_put_writes ds S Q E → ds.length = 5 := by
  intro ds S Q E h; unfold sp_put_writes at h; split at h <;> first | rfl | exact h.elim
theorem len_take_writes : ∀ ds S Q E, sp_take_writes ds S Q E → ds.length = 2 := by
  intro ds S Q E h; unfold sp_take_writes at h; split at h <;> first | rfl | exact h.elim
abbrev n_evened : List Str := ["bounds", "low", "shelf", "key", "amount", "first", "behind", "places", "place", "at", "aims", "aim", "moves"]
def w_evened : WS :=
  wsSeq (wsAsg (tT [5, 6]) (wCall sp_stretch_of [wVar 0, wVar 1, wCall sp_seat_of [wVar 2, wVar 3] []] [])) (wsSeq (wsSet 7 (wCompR2 [8] (tN 8) (wVar 5) (wVar 6) (wOp pNe (wOp pIx (wVar 2) (wVar 8)) (wTup [])) (wVar 8))) (wsSeq (wsSet 9 (wB bLen [wComp [8] (tN 8) (wVar 7) (wOp pLt (wOp pIx (wOp pIx (wVar 2) (wVar 8)) (ret (.int 0))) (wVar 3)) (wVar 8)])) (wsSeq (wsSet 10 (wComp [11] (tN 11) (wCall sp_targets [wOp pAdd (wB bLen [wVar 7]) (ret (.int 1)), wOp pSub (wVar 6) (wVar 5)] []) (wYes) (wOp pAdd (wVar 5) (wVar 11)))) (wsSeq (wsSet 12 (wCall sp_moves_of [wVar 7, wOp pAdd (wSl (wVar 10) none (some (wVar 9))) (wSl (wVar 10) (some (wOp pAdd (wVar 9) (ret (.int 1)))) none)] [])) (wsRet (wOp pAdd (wCall sp_writes_of [wVar 2, wVar 12] []) (wLst [wTup [wOp pIx (wVar 10) (wVar 9), wTup [wVar 3, wVar 4]]])))))))

abbrev n_put_writes : List Str := ["bounds", "height", "shelf", "key", "amount", "place"]
def w_put_writes : WS :=
  wsSeq (wsSet 5 (wCall sp_place_of [wVar 2, wVar 3] [])) (wsSeq (wsIf (wOp1 pNotN (wVar 5)) (wsRet (wLst [wTup [wVar 5, wTup [wVar 3, wVar 4]]])) (wsNil)) (wsSeq (wsIf (wOp pGe (wCall sp_held [wVar 2, ret (.int 0), wB bLen [wVar 2]] []) (wCall sp_cap_of [wVar 0, wVar 1] [])) (wsRaise "Full") (wsNil)) (wsRet (wCall sp_evened [wVar 0, wCall sp_height_for [wVar 0, wVar 1, wVar 2, wVar 3] [], wVar 2, wVar 3, wVar 4] []))))

abbrev n_take_writes : List Str := ["shelf", "key", "place"]
def w_take_writes : WS :=
  wsSeq (wsSet 2 (wCall sp_place_of [wVar 0, wVar 1] [])) (wsSeq (wsIf (wOp1 pIsN (wVar 2)) (wsRaise "NoKey") (wsNil)) (wsRet (wLst [wTup [wVar 2, wTup []]])))

/-- the lists that evened makes -/
def plL (ps : List Pl) (f z : Nat) : List Int := (csM ps f z).map fun c : Nat × Th => (c.1 : Int)
def aimL (f z n : Nat) : List Int := (aimsN f z n).map fun a : Nat => (a : Int)
def othL (ps : List Pl) (f z : Nat) (key : Int) : List Int := (othersN ps f z key).map fun a : Nat => (a : Int)
theorem plL_len (ps : List Pl) (f z : Nat) : (plL ps f z).length = (csM ps f z).length := by simp [plL]
theorem aimL_len (f z n : Nat) : (aimL f z n).length = n := by simp [aimL, aimsN]
theorem othL_eq (ps : List Pl) (f z : Nat) (key : Int) : othL ps f z key = (aimL f z ((csM ps f z).length + 1)).take (atN ps f z key) ++ (aimL f z ((csM ps f z).length + 1)).drop (atN ps f z key + 1) := by
  unfold othL aimL othersN
  rw [List.map_append, List.map_take, List.map_drop]
theorem ev_ws (ps : List Pl) (f z : Nat) (key : Int) : wrsOf ps (movesF ((plL ps f z).zip (othL ps f z key))) = trWs (evT ps f z key) := movesF_ev
theorem aimL_at (ps : List Pl) (f z : Nat) (key : Int) : atI ((aimL f z ((csM ps f z).length + 1)).map D.int) (atN ps f z key : Nat) = some (.int (newAim ps f z key : Nat)) := by
  have hat := atN_le (ps := ps) (f := f) (z := z) (key := key)
  rw [atI_lt (by omega) (by simp [aimL_len]; omega)]
  simp [aimL, aimsN, newAim]
theorem aimL_tgs (f z n : Nat) : ((tgs (n : Int) (z : Int)).map D.int).map (fun d => match d with | .int a => D.int (f + a) | _ => .non) = (aimL f z n).map .int := by
  have := congrArg (List.map D.int) (aims_tgs f z n)
  unfold aimL
  rw [← this, List.map_map, List.map_map]
  rfl
/-- the places of a stretch, as a comprehension makes them -/
theorem comp_stretch {n i sh : Nat} {ps : List Pl} {f z : Nat} {ρ : DEnv} {S : Store} {Q : PQ} (hs : S[n]? = some (shp ps)) (hl : f + z ≤ ps.length) (hsh : ∀ x, (ρ.set i x)[sh]? = some (some (.ref n))) (hi : i < ρ.length)
    (h : Q (.ref S.length) (S ++ [.lst ((plL ps f z).map .int)])) : compG (fun _ => True) (tN i) (wOp pNe (wOp pIx (wVar sh) (wVar i)) (wTup [])) (wVar i) (rangeD (f : Int) z) [] ρ S Q := by
  refine comp_range (fun j => if fullAt ps (f + j) then some (.int ((f + j : Nat) : Int)) else none) (fun j hj N hN => ?_) ?_
  · have hj2 : f + j < ps.length := by omega
    have e := pl_at (ps := ps) (i := f + j) hj2
    have e3 : fullAt ps (f + j) = ps[f + j].isSome := by
      unfold fullAt
      rw [List.getElem?_eq_getElem hj2]
      cases ps[f + j] <;> rfl
    have hv : ∀ d, (ρ.set i d)[i]? = some d := fun d => by simp [hi]
    have e4 : ((f : Int) + (j : Int)) = ((f + j : Nat) : Int) := by omega
    rw [e4]
    simp [-Int.natCast_add, hsh, hv, hs, e]
    rw [e3] at hN
    cases e2 : ps[f + j] with
    | none => simpa [-Int.natCast_add, e2] using hN
    | some u => simpa [-Int.natCast_add, e2] using hN
  · have e : (List.range z).filterMap (fun j => if fullAt ps (f + j) = true then some (D.int ((f + j : Nat) : Int)) else none) = (plL ps f z).map .int := by
      have := congrArg (List.map fun p : Nat => D.int (p : Int)) (places_eq hl)
      rw [List.map_map, List.map_filterMap] at this
      unfold plL
      rw [List.map_map]
      refine Eq.trans ?_ this
      congr 1
      funext j
      by_cases h : fullAt ps (f + j) = true <;> simp [h]
    rw [e]; exact h
theorem lessAt_at {ps : List Pl} {c : Nat × Th} {f z : Nat} {key : Int} (h : c ∈ csM ps f z) : lessAt ps key c.1 = decide (c.2.1 < key) := cell_less (List.mem_filter.mp h).1
/-- those ahead of the key, among the stretch's places -/
theorem comp_ahead {n m i sh kv : Nat} {ps : List Pl} {f z : Nat} {key : Int} {ρ : DEnv} {S : Store} {Q : PQ} (hm : S[m]? = some (.lst ((plL ps f z).map .int))) (hs : S[n]? = some (shp ps)) (hsh : ∀ x, (ρ.set i x)[sh]? = some (some (.ref n))) (hk : ∀ x, (ρ.set i x)[kv]? = some (some (.int key))) (hi : i < ρ.length)
    (h : ∀ ds : List D, ds.length = atN ps f z key → Q (.ref S.length) (S ++ [.lst ds])) : compG (atL m ((plL ps f z).map .int)) (tN i) (wOp pLt (wOp pIx (wOp pIx (wVar sh) (wVar i)) (ret (.int 0))) (wVar kv)) (wVar i) ((plL ps f z).map .int) [] ρ S Q := by
  refine comp_pure (fun x => match x with | .int p => if lessAt ps key p.toNat then some (.int p) else none | _ => none) hm (fun x hx N hN => ?_) ?_
  · obtain ⟨p, hp, rfl⟩ := List.mem_map.mp hx
    obtain ⟨c, hc, rfl⟩ := List.mem_map.mp hp
    obtain ⟨e1, e2, e3, _⟩ := csM_at hc
    have e := pl_at (ps := ps) (i := c.1) e3
    rw [List.getElem?_eq_getElem e3] at e1
    have e4 := Option.some.inj e1
    have hv : ∀ d, (ρ.set i d)[i]? = some d := fun d => by simp [hi]
    simp [lessAt_at hc] at hN
    simp [hsh, hk, hv, hs, e, e4, jx0]
    by_cases hlt : c.2.1 < key
    · exact .inr ⟨hlt, by simpa [hlt] using hN⟩
    · exact .inl ⟨by omega, by simpa [hlt] using hN⟩
  · refine h _ ?_
    rw [← atN_cs, List.filterMap_map]
    show _ = ((plL ps f z).filter _).length
    generalize plL ps f z = l
    induction l with
    | nil => rfl
    | cons p l ih => by_cases hp : lessAt ps key p.toNat = true <;> simp [hp] at ih ⊢ <;> omega
theorem cut_to {α : Type} (f : α → D) (xs : List α) (k : Nat) : cutD (xs.map f) none (some (k : Int)) = (xs.take k).map f := by simpa using cutD_takeE f xs (b := (k : Int)) (by omega)
theorem cut_from {α : Type} (f : α → D) (xs : List α) (k : Nat) : cutD (xs.map f) (some (k : Int)) none = (xs.drop k).map f := by
  unfold cutD
  rw [HT.sIx_nat, HT.sIx_none, List.length_map, List.take_of_length_le (by simp), ← List.map_drop]
  by_cases h : k ≤ xs.length
  · rw [Nat.min_eq_left h]
  · rw [Nat.min_eq_right (by omega), List.drop_of_length_le (Nat.le_refl _), List.drop_of_length_le (by omega)]
theorem ob_evened : Ob n_evened sp_evened w_evened := by
  intro ds S Q E hS hd h
  unfold sp_evened at h
  split at h
  · rename_i t w s l n key am
    obtain ⟨ps, h, hn, hl, g, ⟨hl0, hlh⟩, hq⟩ := h
    obtain ⟨e1, e2, e3, e4, e5, e6⟩ := g.st hlh key
    have hh := g.h10
    have w1 := g.w1
    have w2 := g.w2
    have hz4 : (100000 : Nat) ≤ sizeLine := by decide
    simp [w_evened, startD, sp_seat_of, sp_stretch_of, setAll, hn, e_compR2]
    refine ⟨ps, rfl, by omega, ⟨hl0, by omega, w1, w2⟩, ?_⟩
    rw [show (seatN ps key ps.length : Int) / (2 ^ l.toNat * w) * (2 ^ l.toNat * w) = ((fN ps w l.toNat key : Nat) : Int) from e1.symm, show (2 : Int) ^ l.toNat * w = ((zN w l.toNat : Nat) : Int) from e2.symm]
    generalize fN ps w l.toNat key = f at *
    generalize zN w l.toNat = z at *
    rw [show (f : Int) + (z : Int) - (f : Int) = (z : Int) by omega, Int.toNat_natCast]
    refine ⟨by omega, comp_stretch (n := n) (sh := 2) hn e6 (by simp) (by simp) ?_⟩
    have hml : (csM ps f z).length ≤ ps.length := by
      have h1 := List.length_filter_le (fun c : Nat × Th => decide (f ≤ c.1 ∧ c.1 < f + z)) (cells ps)
      have h2 : (cells ps).length = (things ps).length := by rw [← cells_things, List.length_map]
      have h3 := things_le ps
      unfold csM; omega
    have hpl := plL_len ps f z
    have hat := atN_le (ps := ps) (f := f) (z := z) (key := key)
    have hal := aimL_len f z ((csM ps f z).length + 1)
    refine ⟨_, rfl, _, get_at, comp_ahead (n := n) (ps := ps) (f := f) (z := z) (key := key) (sh := 2) (kv := 3) get_at (app_get hn) (by simp) (by simp) (by simp) fun ds hds => ?_⟩
    have ez : (f : Int) + (z : Int) - (f : Int) = (z : Int) := by omega
    have em : ((csM ps f z).length : Int) + 1 = (((csM ps f z).length + 1 : Nat) : Int) := by omega
    simp [sp_targets, hpl, hds, ez]
    rw [em]
    generalize hM : (csM ps f z).length + 1 = M at *
    generalize hA : atN ps f z key = A at *
    refine ⟨by omega, _, by rw [atL, atn]; rfl, comp_listY (fun d => match d with | .int a => .int (f + a) | _ => .non) (by rw [atn]; rfl) (fun x hx N hN => ?_) ?_⟩
    · obtain ⟨a, _, rfl⟩ := List.mem_map.mp hx
      simpa using hN
    · rw [aimL_tgs]
      have eA : (A : Int) + 1 = ((A + 1 : Nat) : Int) := by omega
      have eo := othL_eq ps f z key
      rw [hM, hA] at eo
      simp [atn, eA, -Int.natCast_add]
      rw [cut_to, cut_from, ← List.map_append, ← eo]
      have hol : (othL ps f z key).length = (csM ps f z).length := by unfold othL; rw [List.length_map, othersN_length]
      have hll := congrArg List.length eo
      rw [List.length_append] at hll
      have hms : ∀ x ∈ movesF ((plL ps f z).zip (othL ps f z key)), 0 ≤ x.1 ∧ x.1 < ps.length := fun x hx => by
        have := (List.of_mem_zip (movesF_in hx)).1
        unfold plL at this
        obtain ⟨c, hc, e⟩ := List.mem_map.mp this
        have := (csM_at hc).2.2.1
        rw [← e]; omega
      have hml2 := movesF_len ((plL ps f z).zip (othL ps f z key))
      have hzl : ((plL ps f z).zip (othL ps f z key)).length ≤ (csM ps f z).length := by rw [List.length_zip]; omega
      have hws := ev_ws ps f z key
      have hla := aimL_at ps f z key
      rw [hM, hA] at hla
      refine ⟨by rw [List.length_map, List.length_map]; omega, plL ps f z, othL ps f z key, get_at, by rw [atn]; rfl, by omega, ?_⟩
      refine ⟨ps, _, by rw [app_get]; exact app_get hn, get_at, hms, by omega, ?_⟩
      have hwl := wrsOf_len ps (movesF ((plL ps f z).zip (othL ps f z key)))
      rw [hws] at hwl ⊢
      have fin : ∀ (G : Store) (k : Nat) (c : Cell), G[k]? = some c → c = wrp (evW ps f z key am) → RetQ S.length Q (.ref (S.length + k)) (S ++ G) := fun G k c h1 h2 => by
        subst h2
        exact ret_list hS (fun i hi => by rw [List.getElem?_append_left hi]) (by rw [atn]; exact h1) (by omega) (cls_map eWr _ _) hq
      simp only [List.append_assoc, List.cons_append, List.nil_append, List.length_append, List.length_cons, List.length_nil]
      refine ⟨_, by rw [atn]; rfl, _, hla, ?_⟩
      refine ⟨_, _, by rw [atn]; rfl, by rw [atn]; rfl, ?_, ?_⟩
      · simp; omega
      · simp only [List.append_assoc, List.cons_append, List.nil_append, List.length_append, List.length_cons, List.length_nil, Nat.add_assoc, Nat.zero_add]
        refine fin _ 10 _ rfl ?_
        show Cell.lst _ = Cell.lst _
        rw [evW, List.map_append]
        rfl
  · exact h.elim
theorem held_all (ps : List Pl) : things ((ps.take ps.length).drop 0) = things ps := by simp
theorem evT_len (ps : List Pl) (f z : Nat) (key am : Int) : True := trivial
theorem ob_put_writes : Ob n_put_writes sp_put_writes w_put_writes := by
  intro ds S Q E hS hd h
  unfold sp_put_writes at h
  split at h
  · rename_i t w s h n key am
    obtain ⟨ps, hn, hl, h0, g, hq⟩ := h
    have h10 := g.h10
    have w1 := g.w1
    have w2 := g.w2
    simp [w_put_writes, startD, sp_place_of, hn]
    refine ⟨ps, rfl, by omega, ?_⟩
    unfold putW at hq
    cases hp : placeN ps key with
    | some p =>
      rw [hp] at hq
      simp [optI, isNon]
      exact ret_any (by simpa [wrp, ePl] using hq)
    | none =>
      rw [hp] at hq
      simp [optI, isNon, sp_held, sp_cap_of, hn]
      refine ⟨ps, rfl, ⟨h0, by omega⟩, ?_⟩
      rw [List.take_length]
      have hc : (2 : Int) ^ h.toNat * (w - s * h) = capI w s h.toNat := by unfold capI; rw [Int.toNat_of_nonneg h0]
      rw [hc]
      by_cases hlt : ((things ps).length : Int) < capI w s h.toNat
      · simp only [if_pos hlt] at hq
        refine .inl ⟨hlt, ps, ⟨hn, by omega, ⟨h0, by omega, w1, w2⟩, ?_⟩⟩
        simp [sp_evened, hn]
        refine ⟨ps, rfl, hl, h.toNat, g, ?_, ret_any (by simpa [lowK] using hq)⟩
        unfold lowN
        cases e : (List.range h.toNat).find? (roomAt ps w s (seatN ps key ps.length)) with
        | none => simp
        | some i =>
          have := List.mem_range.mp (List.mem_of_find?_eq_some e)
          simp; omega
      · simp only [if_neg hlt] at hq
        exact .inr ⟨by omega, .inl hq⟩
  · exact h.elim
theorem ob_take_writes : Ob n_take_writes sp_take_writes w_take_writes := by
  intro ds S Q E hS hd h
  unfold sp_take_writes at h
  split at h
  · rename_i n key
    obtain ⟨ps, hn, hl, hq⟩ := h
    simp [w_take_writes, startD, sp_place_of, hn]
    refine ⟨ps, rfl, by omega, ?_⟩
    cases hp : placeN ps key with
    | some p =>
      rw [hp] at hq
      simp [optI, isNon]
      exact ret_any (by simpa [wrp, ePl] using hq)
    | none =>
      rw [hp] at hq
      simp [optI, isNon]
      exact .inl hq
  · exact h.elim
/-! ### laid anew -/
def cw (c : Nat × Th) : Wr := ((c.1 : Int), some c.2)
theorem lay_all : ∀ (W A B : Cs) (s : List Pl), On (A ++ B) s → Srt (A ++ (W ++ B)) → (∀ c ∈ W, c.1 < s.length) → On (A ++ (W ++ B)) (doneP s (W.map cw))
  | [], A, B, s, h, _, _ => by simpa [doneP] using h
  | c :: W, A, B, s, h, hs, hl => by
    have h1 : On ((A ++ [c]) ++ B) (s.set c.1 (some c.2)) := by
      have hs' : Srt ((A ++ [c]) ++ B) := by
        obtain ⟨a1, a2, a3⟩ := Srt.app.mp hs
        obtain ⟨a4, a5⟩ := Srt.cons.mp a2
        obtain ⟨b1, b2, b3⟩ := Srt.app.mp a5
        rw [List.append_assoc]
        exact Srt.app.mpr ⟨a1, Srt.cons.mpr ⟨fun y hy => a4 y (List.mem_append_right _ hy), b2⟩, fun x hx y hy => a3 x hx y (by
          rcases List.mem_cons.mp hy with rfl | hy
          · exact List.mem_cons_self ..
          · exact List.mem_cons_of_mem _ (List.mem_append_right _ hy))⟩
      refine h.lay (cs' := (A ++ [c]) ++ B) (hl c (List.mem_cons_self ..)) (fun d hd => ?_) hs' fun d => ?_
      · rw [List.append_assoc] at hs'
        obtain ⟨a1, a2, a3⟩ := Srt.app.mp hs'
        obtain ⟨a4, a5⟩ := Srt.cons.mp a2
        rcases List.mem_append.mp hd with hd | hd
        · have := a3 d hd c (List.mem_cons_self ..); omega
        · have := a4 d hd; omega
      · simp only [List.mem_append, List.mem_cons, List.not_mem_nil, or_false]
        constructor
        · rintro ((h | h) | h)
          · exact .inl (.inl h)
          · exact .inr h
          · exact .inl (.inr h)
        · rintro ((h | h) | h)
          · exact .inl (.inl h)
          · exact .inr h
          · exact .inl (.inr h)
    have := lay_all W (A ++ [c]) B (s.set c.1 (some c.2)) h1 (by simpa using hs) fun d hd => by simpa using hl d (List.mem_cons_of_mem _ hd)
    simpa [doneP, cw] using this
theorem base_on {ps : List Pl} {f z : Nat} (h : f + z ≤ ps.length) : On (csL ps f ++ csR ps (f + z)) (ps.take f ++ (List.replicate z none ++ ps.drop (f + z))) := by
  have hlen : (ps.take f).length = f := by simp; omega
  have at1 : ∀ x, x < f → (ps.take f ++ (List.replicate z none ++ ps.drop (f + z)))[x]? = ps[x]? := fun x hx => by
    rw [List.getElem?_append_left (by omega), List.getElem?_take_of_lt hx]
  have at2 : ∀ x, f ≤ x → x < f + z → (ps.take f ++ (List.replicate z none ++ ps.drop (f + z)))[x]? = some none := fun x h1 h2 => by
    rw [List.getElem?_append_right (by omega), List.getElem?_append_left (by simp; omega), List.getElem?_replicate, if_pos (by omega)]
  have at3 : ∀ x, f + z ≤ x → (ps.take f ++ (List.replicate z none ++ ps.drop (f + z)))[x]? = ps[x]? := fun x h1 => by
    rw [List.getElem?_append_right (by omega), List.getElem?_append_right (by simp; omega), List.getElem?_drop]
    congr 1
    simp; omega
  refine ⟨fun c hc => ⟨Nat.zero_le _, ?_⟩, fun x hx hc => ?_, ?_⟩
  · rw [Nat.sub_zero]
    rcases List.mem_append.mp hc with hc | hc
    · have h1 := (List.mem_filter.mp hc).2
      simp at h1
      rw [at1 _ h1]
      exact ((cells_on ps).mem_iff c).mp (List.mem_filter.mp hc).1
    · have h1 := (List.mem_filter.mp hc).2
      simp at h1
      rw [at3 _ h1]
      exact ((cells_on ps).mem_iff c).mp (List.mem_filter.mp hc).1
  · have hx2 : x < ps.length := by simp at hx; omega
    rcases Nat.lt_or_ge x f with h1 | h1
    · rw [at1 _ h1]
      refine (cells_on ps).no x hx2 fun c hc' e => hc c (List.mem_append_left _ (List.mem_filter.mpr ⟨hc', by simp; omega⟩)) e
    · rcases Nat.lt_or_ge x (f + z) with h2 | h2
      · exact at2 _ h1 h2
      · rw [at3 _ h2]
        refine (cells_on ps).no x hx2 fun c hc' e => hc c (List.mem_append_right _ (List.mem_filter.mpr ⟨hc', by simp; omega⟩)) e
  · have := (cells_on ps).srt
    rw [cells_split ps f z] at this
    obtain ⟨a1, a2, a3⟩ := Srt.app.mp this
    obtain ⟨b1, b2, b3⟩ := Srt.app.mp a2
    exact Srt.app.mpr ⟨a1, b2, fun x hx y hy => a3 x hx y (List.mem_append_right _ hy)⟩
/-- the slab that an evening makes -/
def evS (ps : List Pl) (f z : Nat) (t : Th) : List Pl := doneP ps (evW ps f z t.1 t.2)
theorem evS_len (ps : List Pl) (f z : Nat) (t : Th) : (evS ps f z t).length = ps.length := doneP_len _ _
theorem evS_on {ps : List Pl} {f z : Nat} {key : Int} (h : EvOk ps f z key) (am : Int) : On (finC ps f z (key, am)) (evS ps f z (key, am)) := ev_done h am
theorem laid_eq {ps : List Pl} {f z : Nat} {key : Int} (h : EvOk ps f z key) (am : Int) :
    doneP (ps.take f ++ (List.replicate z none ++ ps.drop (f + z))) (((aimsN f z ((csM ps f z).length + 1)).zip (insTh ((csM ps f z).map (·.2)) (key, am))).map cw) = evS ps f z (key, am) := by
  have hl := h.len
  refine On.eq (cs := finC ps f z (key, am)) ?_ (evS_on h am) ?_
  · unfold finC
    refine lay_all _ _ _ _ (base_on hl) (finC_srt h am) fun c hc => ?_
    have := finC_lt h am c (List.mem_append_right _ (List.mem_append_left _ hc))
    simp; omega
  · rw [doneP_len, evS_len]; simp; omega
theorem insTh_perm (ts : List Th) (t : Th) : (insTh ts t).Perm (ts ++ [t]) := by
  unfold insTh
  have h1 : (ts.filter (fun u => decide (u.1 < t.1)) ++ ts.filter (fun u => !decide (u.1 < t.1))).Perm ts := List.filter_append_perm _ _
  refine (List.perm_middle).trans ?_
  exact (List.Perm.cons t h1).trans (List.perm_append_comm (l₁ := [t]) (l₂ := ts))
theorem insTh_rises {ts : List Th} {t : Th} (h : Rises ts) (hn : ∀ u ∈ ts, u.1 ≠ t.1) : Rises (insTh ts t) := by
  unfold Rises insTh at *
  rw [List.pairwise_append, List.pairwise_cons]
  refine ⟨h.filter _, ⟨fun u hu => ?_, h.filter _⟩, fun a ha b hb => ?_⟩
  · have h1 := List.mem_filter.mp hu
    have := hn u h1.1
    have := h1.2
    simp at this; omega
  · have h1 := List.mem_filter.mp ha
    simp at h1
    rcases List.mem_cons.mp hb with rfl | hb
    · exact h1.2
    · have h2 := List.mem_filter.mp hb
      simp at h2
      omega
/-- how often a thing lies -/
theorem count_pl (s : List Pl) (t : Th) : s.count (some t) = (things s).count t := by
  induction s with
  | nil => rfl
  | cons p s ih => cases p with
    | none => simpa [things, List.count_cons] using ih
    | some u =>
      have e : things (some u :: s) = u :: things s := rfl
      rw [e, List.count_cons, List.count_cons, ih]
      simp
theorem rises_count {l r : List Th} {t : Th} (h : Rises (l ++ t :: r)) : (l ++ t :: t :: r).count t = 2 := by
  unfold Rises at h
  rw [List.pairwise_append, List.pairwise_cons] at h
  have h1 : l.count t = 0 := List.count_eq_zero.mpr fun hm => by have := h.2.2 t hm t (List.mem_cons_self ..); omega
  have h2 : r.count t = 0 := List.count_eq_zero.mpr fun hm => by have := h.2.1.1 t hm; omega
  simp [List.count_append, h1, h2]
/-! ### how many are moved -/
theorem trWs_len (T : List Tr) : (trWs T).length = 2 * (T.filter fun x => decide (x.1 ≠ x.2.1)).length := by
  unfold trWs
  have h1 : ∀ l : List Tr, (l.flatMap trW).length = 2 * l.length := fun l => by
    induction l with
    | nil => rfl
    | cons x l ih => simp [trW] at ih ⊢; omega
  rw [List.length_append, h1, h1, List.length_reverse]
  have h2 : ∀ l : List Tr, (l.filter onw).length + (l.filter bkw).length = (l.filter fun x => decide (x.1 ≠ x.2.1)).length := fun l => by
    induction l with
    | nil => rfl
    | cons x l ih =>
      have e1 : onw x = decide (x.1 < x.2.1) := rfl
      have e2 : bkw x = decide (x.2.1 < x.1) := rfl
      rcases Nat.lt_trichotomy x.1 x.2.1 with h | h | h
      · have a : onw x = true := by rw [e1]; simpa using h
        have b : bkw x = false := by rw [e2]; simp; omega
        have c : decide (x.1 ≠ x.2.1) = true := by simp; omega
        simp only [List.filter_cons, a, b, c, if_true, List.length_cons, Bool.false_eq_true, if_false]; omega
      · have a : onw x = false := by rw [e1]; simp; omega
        have b : bkw x = false := by rw [e2]; simp; omega
        have c : decide (x.1 ≠ x.2.1) = false := by simp; omega
        simp only [List.filter_cons, a, b, c, Bool.false_eq_true, if_false]; omega
      · have a : onw x = false := by rw [e1]; simp; omega
        have b : bkw x = true := by rw [e2]; simpa using h
        have c : decide (x.1 ≠ x.2.1) = true := by simp; omega
        simp only [List.filter_cons, a, b, c, if_true, List.length_cons, Bool.false_eq_true, if_false]; omega
  have := h2 T; omega
theorem fin_keys {ps : List Pl} {f z : Nat} {key : Int} (h : EvOk ps f z key) (am : Int) : (finC ps f z (key, am)).Pairwise fun a b => a.2.1 < b.2.1 := by
  have h1 := insTh_rises (t := (key, am)) h.ris h.no
  unfold Rises at h1
  rw [← finC_things h am, List.pairwise_map] at h1
  exact h1
theorem srt_inj {cs : Cs} (h : cs.Pairwise fun a b => a.2.1 < b.2.1) {c d : Nat × Th} (hc : c ∈ cs) (hd : d ∈ cs) (e : c.2.1 = d.2.1) : c = d := by
  obtain ⟨i, hi, rfl⟩ := List.mem_iff_getElem.mp hc
  obtain ⟨j, hj, rfl⟩ := List.mem_iff_getElem.mp hd
  rcases Nat.lt_trichotomy i j with h1 | h1 | h1
  · have := List.pairwise_iff_getElem.mp h i j hi hj h1; omega
  · subst h1; rfl
  · have := List.pairwise_iff_getElem.mp h j i hj hi h1; omega
theorem evT_fin {ps : List Pl} {f z : Nat} {key : Int} (h : EvOk ps f z key) (am : Int) {c : Nat × Th} : c ∈ finC ps f z (key, am) ↔ c ∈ trA (evT ps f z key) ∨ c = (newAim ps f z key, (key, am)) := by
  obtain ⟨A1, A2, M1, M2, p⟩ := ev_part (f := f) (z := z) (key := key) h.ris
  rw [p.A, p.fin]
  simp only [List.mem_append, List.mem_cons]
  constructor
  · rintro ((h | h) | (h | h | h))
    · exact .inl (.inl (.inl h))
    · exact .inl (.inl (.inr h))
    · exact .inr h
    · exact .inl (.inr (.inl h))
    · exact .inl (.inr (.inr h))
  · rintro (((h | h) | (h | h)) | h)
    · exact .inl (.inl h)
    · exact .inl (.inr h)
    · exact .inr (.inr (.inl h))
    · exact .inr (.inr (.inr h))
    · exact .inr (.inl h)
def movedN (ps qs : List Pl) : Nat := ((fullN ps).filter fun p => decide (qs[p]? ≠ ps[p]?)).length
theorem evT_moved {ps : List Pl} {f z : Nat} {key : Int} (h : EvOk ps f z key) (am : Int) : ((evT ps f z key).filter fun x => decide (x.1 ≠ x.2.1)).length = movedN ps (evS ps f z (key, am)) := by
  have hP : (evT ps f z key).map (·.1) = fullN ps := by
    have e := congrArg (List.map (·.1)) (evT_P (ps := ps) (f := f) (z := z) (key := key))
    unfold trP cells at e
    rw [List.map_map, List.map_map] at e
    simpa [Function.comp_def] using e
  unfold movedN
  rw [← hP, List.filter_map, List.length_map]
  congr 1
  refine List.filter_congr fun x hx => ?_
  have on := evS_on h am
  have hxP : (x.1, x.2.2) ∈ cells ps := by rw [← evT_P (f := f) (z := z) (key := key)]; exact List.mem_map.mpr ⟨x, hx, rfl⟩
  have hxA : (x.2.1, x.2.2) ∈ finC ps f z (key, am) := (evT_fin h am).mpr (.inl (List.mem_map.mpr ⟨x, hx, rfl⟩))
  have e1 := ((cells_on ps).mem_iff _).mp hxP
  have e2 := (on.mem_iff _).mp hxA
  simp only [Function.comp]
  congr 1
  refine propext ⟨fun hne he => hne ?_, fun hne he => hne ?_⟩
  · rw [e1] at he
    have := (on.mem_iff (x.1, x.2.2)).mpr he
    have := srt_inj (fin_keys h am) this hxA rfl
    exact congrArg Prod.fst this
  · simp only at e1 e2
    rw [he, e2, ← e1, he]
theorem evW_len {ps : List Pl} {f z : Nat} {key : Int} (h : EvOk ps f z key) (am : Int) : (evW ps f z key am).length = 2 * movedN ps (evS ps f z (key, am)) + 1 := by
  unfold evW
  rw [List.length_append, trWs_len, evT_moved h am]; rfl
def sp_law_held : SPf
  | [.ref n, .int a, .int b], S, Q, _ => ∃ ps, S[n]? = some (shp ps) ∧ (0 ≤ a ∧ 0 ≤ b) ∧ Q (.int (things ((ps.take b.toNat).drop a.toNat)).length) S
  | _, _, _, _ => False
def sp_law_stretch : SPf
  | [.tup [.int _, .int w, .int s], .ref n, .int key], S, Q, _ => ∃ ps h, S[n]? = some (shp ps) ∧ ps.length ≤ 100000 ∧ (1 ≤ w ∧ w ≤ 1000) ∧ (0 ≤ s ∧ s ≤ 1000) ∧ h ≤ 4 ∧ roomAt ps w s (seatN ps key ps.length) h = true ∧ Q (.tup [.int (lowN ps w s (seatN ps key ps.length) h), .int (fstI w (lowN ps w s (seatN ps key ps.length) h) (seatN ps key ps.length)), .int (szI w (lowN ps w s (seatN ps key ps.length) h))]) S
  | _, _, _, _ => False
theorem len_law_held : ∀ ds S Q E, sp_law_held ds S Q E → ds.length = 3 := by
  intro ds S Q E h; unfold sp_law_held at h; split at h <;> first | rfl | exact h.elim
theorem len_law_stretch : ∀ ds S Q E, sp_law_stretch ds S Q E → ds.length = 3 := by
  intro ds S Q E h; unfold sp_law_stretch at h; split at h <;> first | rfl | exact h.elim
abbrev n_law_held : List Str := ["shelf", "first", "behind", "thing"]
def w_law_held : WS :=
  wsRet (wB bLen [wComp [3] (tN 3) (wSl (wVar 0) (some (wVar 1)) (some (wVar 2))) (wOp pNe (wVar 3) (wTup [])) (wVar 3)])
abbrev n_law_stretch : List Str := ["bounds", "shelf", "key", "seat", "place", "low", "size", "first"]
def w_law_stretch_r1 : WS :=
  wsSeq (wsSet 5 (ret (.int 0))) (wsSeq (wsSet 6 (wOp pIx (wVar 0) (ret (.int 1)))) (wsSeq (wsSet 7 (wOp pMul (wOp pDiv (wVar 3) (wVar 6)) (wVar 6))) (wsSeq (wsWhile (wOp pGe (wCall sp_law_held [wVar 1, wVar 7, wOp pAdd (wVar 7) (wVar 6)] []) (wOp pMul (wCall sp_law_two [wVar 5] []) (wOp pSub (wOp pIx (wVar 0) (ret (.int 1))) (wOp pMul (wVar 5) (wOp pIx (wVar 0) (ret (.int 2))))))) (wsSeq (wsSet 5 (wOp pAdd (wVar 5) (ret (.int 1)))) (wsSeq (wsSet 6 (wOp pMul (wVar 6) (ret (.int 2)))) (wsSet 7 (wOp pMul (wOp pDiv (wVar 3) (wVar 6)) (wVar 6)))))) (wsRet (wTup [wVar 5, wVar 7, wVar 6])))))
def w_law_stretch : WS :=
  wsSeq (wsSet 3 (ret (.int 0))) (wsSeq (wsForR1 (tN 4) (wB bLen [wVar 1]) (wsIf (wAnd (wOp pNe (wOp pIx (wVar 1) (wVar 4)) (wTup [])) (wOp pLt (wOp pIx (wOp pIx (wVar 1) (wVar 4)) (ret (.int 0))) (wVar 2))) (wsSet 3 (wVar 4)) (wsNil))) (w_law_stretch_r1))
theorem ob_law_held : Ob n_law_held sp_law_held w_law_held := ob_held
theorem szI_next (w : Int) (l : Nat) : szI w (l + 1) = szI w l * 2 := by
  unfold szI; rw [Int.pow_succ, Int.mul_assoc, Int.mul_comm 2 w, ← Int.mul_assoc]
theorem good_cap {t w s h : Int} (g : Good t w s) (h0 : 0 ≤ h) (h1 : h ≤ t) : 2 * s ≤ w - s * h := by
  obtain ⟨g1, g2, g3, g4, g5, g6⟩ := g
  have : s * (h + 2) ≤ s * (t + 2) := Int.mul_le_mul_of_nonneg_left (by omega) (by omega)
  rw [Int.mul_add] at this
  omega
theorem ob_law_stretch : Ob n_law_stretch sp_law_stretch w_law_stretch := by
  intro ds S Q E hS hd h
  unfold sp_law_stretch at h
  split at h
  · rename_i t w s n key
    obtain ⟨ps, h, hn, hl, ⟨h2, h3⟩, ⟨s0, s1⟩, h4, hr, hq⟩ := h
    simp [w_law_stretch, startD, hn]
    refine ⟨by omega, ?_⟩
    refine loop_range (fun i ρ S' => S' = S ∧ ∃ x, ρ = [some (bnd t w s), some (.ref n), some (.int key), some (.int (seatN ps key i)), x, none, none, none]) ⟨rfl, none, rfl⟩ ?_ ?_
    · rintro i ρ S' N hi ⟨rfl, x, rfl⟩ hN
      have e := pl_at (ps := ps) (i := i) hi
      have fin := hN _ _ ⟨rfl, some (.int i), rfl⟩
      simp [hn, e]
      cases e2 : ps[i] with
      | none =>
        simp
        simpa [seatN, lessAt, List.getElem?_eq_getElem hi, e2] using fin
      | some t =>
        simp [jx0]
        by_cases h : t.1 < key
        · refine .inr ⟨h, ?_⟩
          simpa [seatN, lessAt, List.getElem?_eq_getElem hi, e2, h] using fin
        · refine .inl ⟨by omega, ?_⟩
          simpa [seatN, lessAt, List.getElem?_eq_getElem hi, e2, h] using fin
    · rintro ρ S0 ⟨rfl, x, rfl⟩
      generalize hseat : seatN ps key ps.length = seat at *
      have hz0 := szI_pos (w := w) (l := 0) (by omega) h2 h3
      simp [w_law_stretch_r1, ix1]
      refine ⟨divOk (by omega) (by omega), mulR (by omega), ?_⟩
      refine loop_while (fun m ρ S' => S' = S0 ∧ ∃ l, m = h - l ∧ l ≤ h ∧ (∀ j, j < l → roomAt ps w s seat j = false) ∧ ρ = [some (bnd t w s), some (.ref n), some (.int key), some (.int seat), x, some (.int l), some (.int (szI w l)), some (.int (fstI w l seat))]) h ⟨rfl, 0, rfl, Nat.zero_le _, fun _ h => absurd h (by omega), by simp [szI, fstI]⟩ ?_
      rintro m ρ S' N ⟨rfl, l, rfl, hlh, hno, rfl⟩ hN
      have hz := szI_pos (w := w) (l := l) (by omega) h2 h3
      have hz2 := szI_pos (w := w) (l := l + 1) (by omega) h2 h3
      have hf := fstI_nonneg (p := seat) (l := l) (by omega) h2 h3 (by omega)
      have hpw := pow10 l (by omega)
      have hls : 0 ≤ (l : Int) * s := Int.mul_nonneg (by omega) (by omega)
      have hls2 : (l : Int) * s ≤ 4 * 1000 := Int.mul_le_mul (by omega) s1 s0 (by decide)
      simp [sp_law_held, hn, sp_law_two, ix1, ix2]
      refine ⟨ps, rfl, ⟨hf, by omega⟩, by omega, mulL (by omega), mulR (by omega), ?_⟩
      rw [Int.mul_comm (l : Int) s]
      by_cases hrm : (heldI ps w seat l : Int) < 2 ^ l * (w - s * l)
      · refine .inl ⟨hrm, ?_⟩
        rw [lowN_some' (i := l) hlh (by simpa [roomAt] using hrm) hno hr] at hq
        exact ret_same hq
      · have hro : roomAt ps w s seat l = false := by simpa [roomAt] using hrm
        have hlt : l < h := by
          rcases Nat.lt_or_ge l h with h5 | h5
          · exact h5
          · have : h = l := by omega
            rw [this, hro] at hr; cases hr
        refine .inr ⟨by show _ ≤ (heldI ps w seat l : Int); omega, ?_⟩
        rw [← szI_next]
        refine ⟨divOk (by omega) (by omega), mulR (by omega), ?_⟩
        refine hN (h - (l + 1)) _ _ (by omega) ⟨rfl, l + 1, rfl, hlt, fun j hj => ?_, rfl⟩
        by_cases hji : j = l
        · subst hji; exact hro
        · exact hno j (by omega)
  · exact h.elim
def lowCap (w s h : Int) : Int := if 0 < h then 2 ^ (h.toNat - 1) * (w - s * (h - 1)) else 0
def overI (w s h : Int) (m : Nat) : Int := if 0 < (m : Int) - lowCap w s h then (m : Int) - lowCap w s h else 0
def sp_over_of : SPf
  | [.tup [.int _, .int w, .int s], .int h, .ref n], S, Q, _ => ∃ ps, S[n]? = some (shp ps) ∧ (0 ≤ h ∧ h ≤ 60) ∧ Q (.int (overI w s h (things ps).length)) S
  | _, _, _, _ => False
theorem len_over_of : ∀ ds S Q E, sp_over_of ds S Q E → ds.length = 3 := by
  intro ds S Q E h; unfold sp_over_of at h; split at h <;> first | rfl | exact h.elim
abbrev n_over_of : List Str := ["bounds", "height", "shelf", "low"]
def w_over_of : WS :=
  wsSeq (wsSet 3 (ret (.int 0))) (wsSeq (wsIf (wOp pGt (wVar 1) (ret (.int 0))) (wsSet 3 (wCall sp_cap_of [wVar 0, wOp pSub (wVar 1) (ret (.int 1))] [])) (wsNil)) (wsRet (wB bMax [ret (.int 0), wOp pSub (wCall sp_held [wVar 2, ret (.int 0), wB bLen [wVar 2]] []) (wVar 3)])))
theorem ob_over_of : Ob n_over_of sp_over_of w_over_of := by
  intro ds S Q E hS hd h
  unfold sp_over_of at h
  split at h
  · rename_i t w s h1 n
    obtain ⟨ps, hn, ⟨h2, h3⟩, hq⟩ := h
    simp [w_over_of, startD, sp_held, sp_cap_of, hn]
    by_cases hh : 0 < h1
    · refine .inr ⟨hh, by omega, ps, rfl, ret_same ?_⟩
      simpa [overI, lowCap, hh] using hq
    · refine .inl ⟨by omega, ps, rfl, ret_same ?_⟩
      simpa [overI, lowCap, hh] using hq
  · exact h.elim
theorem Gc.two {S0 S' : Store} {c1 c2 : Cell} {n k1 k2 : Nat} (hn : S0.length = n) (hc : ClS S0) (h0 : ∀ i, i < n → S'[i]? = S0[i]?) (hk1 : S'[k1]? = some c1) (hk2 : S'[k2]? = some c2) (hn1 : n ≤ k1) (hn2 : n ≤ k2) (hne : k1 ≠ k2) (hd1 : ClC n c1) (hd2 : ClC n c2) :
    Gc n S' (.tup [.ref k1, .ref k2]) (S0 ++ [c1, c2]) (.tup [.ref n, .ref (n + 1)]) := by
  subst hn
  have hψ : ∀ i, i < S0.length → (List.range S0.length ++ [k1, k2])[i]? = some i := fun i h => range_get h
  have g1 : (List.range S0.length ++ [k1, k2])[S0.length]? = some k1 := by rw [List.getElem?_append_right (by simp)]; simp
  have g2 : (List.range S0.length ++ [k1, k2])[S0.length + 1]? = some k2 := by rw [List.getElem?_append_right (by simp)]; simp
  refine ⟨List.range S0.length ++ [k1, k2], ⟨[k1, k2], rfl⟩, ?_, by simp, fun i j c h1 h2 => ?_, ?_⟩
  · rw [List.nodup_append]
    exact ⟨List.nodup_range, by simpa using hne, fun a ha b hb e => by
      have h1 : a < S0.length := by simpa using ha
      have h2 : b = k1 ∨ b = k2 := by simpa using hb
      omega⟩
  · by_cases hi : i < S0.length
    · rw [hψ i hi] at h2; cases h2
      rw [List.getElem?_append_left hi] at h1
      exact ⟨c, by rw [h0 i hi]; exact h1, RenC.id hψ (hc i c h1)⟩
    · have hi2 : i = S0.length ∨ i = S0.length + 1 := by
        have := (List.getElem?_eq_some_iff.mp h1).1
        simp at this; omega
      rcases hi2 with rfl | rfl
      · rw [g1] at h2; cases h2
        rw [List.getElem?_append_right (Nat.le_refl _)] at h1
        simp at h1; subst h1
        exact ⟨_, hk1, RenC.id hψ hd1⟩
      · rw [g2] at h2; cases h2
        rw [List.getElem?_append_right (by omega)] at h1
        simp at h1; subst h1
        exact ⟨_, hk2, RenC.id hψ hd2⟩
  · simp only [Ren]
    refine ⟨_, rfl, Rens.cons ?_ (Rens.cons ?_ Rens.nil)⟩
    · simp only [Ren]; exact ⟨k1, g1, rfl⟩
    · simp only [Ren]; exact ⟨k2, g2, rfl⟩
theorem Gc.same {S0 S' : Store} {c : Cell} {n k : Nat} (hn : S0.length = n) (hc : ClS S0) (h0 : ∀ i, i < n → S'[i]? = S0[i]?) (hk : S'[k]? = some c) (hnk : n ≤ k) (hd : ClC n c) : Gc n S' (.tup [.ref k, .ref k]) (S0 ++ [c]) (.tup [.ref n, .ref n]) := by
  obtain ⟨ψ, h1, h2, h3, h4, h5⟩ := Gc.one hn hc h0 hk hnk hd
  exact ⟨ψ, h1, h2, h3, h4, by simp only [Ren]; exact ⟨_, rfl, Rens.cons h5 (Rens.cons h5 Rens.nil)⟩⟩
theorem twice_no {m r : List Th} {t : Th} (h : m.getLast? = some t) : ¬ NoEq (m ++ t :: r) := fun hno => by
  rw [List.getLast?_eq_getElem?] at h
  obtain ⟨hl, e⟩ := List.getElem?_eq_some_iff.mp h
  refine hno (m.length - 1) (by simp; omega) ?_
  rw [List.getElem?_append_left (by omega), h, List.getElem?_append_right (by omega), show m.length - 1 + 1 - m.length = 0 by omega]; rfl
theorem twice_split {ps : List Pl} {p q : Nat} {t : Th} (h : ps[p]? = some (some t)) (hpq : p < q) : ∃ r, things (ps.take q) = things (ps.take p) ++ t :: r := by
  obtain ⟨hp, e⟩ := List.getElem?_eq_some_iff.mp h
  have : ps.take q = ps.take p ++ (some t :: (ps.take q).drop (p + 1)) := by
    have h2 : p < (ps.take q).length := by simp; omega
    have := List.take_append_drop p (ps.take q)
    rw [List.drop_eq_getElem_cons h2, List.take_take, Nat.min_eq_left (by omega), List.getElem_take, e] at this
    exact this.symm
  rw [this, things_app]
  exact ⟨things ((ps.take q).drop (p + 1)), rfl⟩
theorem twice_unique {ps : List Pl} {p q : Nat} {t u : Th} (h : Twice ps p t) (h2 : Twice ps q u) : p = q := by
  rcases Nat.lt_trichotomy p q with h3 | h3 | h3
  · obtain ⟨r, e⟩ := twice_split h.1 h3
    exact absurd (e ▸ h2.2.2) (twice_no h.2.1)
  · exact h3
  · obtain ⟨r, e⟩ := twice_split h2.1 h3
    exact absurd (e ▸ h.2.2) (twice_no h2.2.1)
theorem mend_unique {ps ms : List Pl} {p : Nat} {t : Th} (h : Twice ps p t) (hm : Mend ps ms) : ms = ps.set p none := by
  rcases hm with ⟨hno, _⟩ | ⟨q, u, h2, rfl⟩
  · obtain ⟨r, e⟩ := twice_split h.1 (List.getElem?_eq_some_iff.mp h.1).1
    rw [List.take_of_length_le (Nat.le_refl _)] at e
    exact absurd (e ▸ hno) (twice_no h.2.1)
  · rw [twice_unique h h2]
theorem mend_none {ps ms : List Pl} (h : NoEq (things ps)) (hm : Mend ps ms) : ms = ps := by
  rcases hm with ⟨_, rfl⟩ | ⟨q, u, h2, rfl⟩
  · rfl
  · obtain ⟨r, e⟩ := twice_split h2.1 (List.getElem?_eq_some_iff.mp h2.1).1
    rw [List.take_of_length_le (Nat.le_refl _)] at e
    exact absurd (e ▸ h) (twice_no h2.2.1)
theorem things_gap {ps : List Pl} {a : Nat} : ∀ k, (∀ j, a ≤ j → j < a + k → ps[j]? = some none) → things (ps.take (a + k)) = things (ps.take a)
  | 0, _ => rfl
  | k + 1, h => by
    have hk := h (a + k) (by omega) (by omega)
    obtain ⟨hl, e⟩ := List.getElem?_eq_some_iff.mp hk
    rw [← Nat.add_assoc, take_next hl, things_app, e, things_none, List.append_nil]
    exact things_gap k fun j h1 h2 => h j h1 (by omega)
theorem NoEq.prefix {a b : List Th} (h : NoEq (a ++ b)) : NoEq a := fun i hi e => by
  refine h i (by simp; omega) ?_
  rw [List.getElem?_append_left (by omega), List.getElem?_append_left hi]; exact e
theorem straight_noEq {ps : List Pl} (h : Straight ps) : NoEq (things ps) := fun i hi e => by
  have := rises_at h i hi
  rw [List.getElem?_eq_getElem (by omega), List.getElem?_eq_getElem hi] at e
  rw [Option.some.inj e] at this
  omega
theorem twice_laid {qs : List Pl} {lo hi : Nat} {t : Th} (h1 : qs[lo]? = some (some t)) (h2 : qs[hi]? = some (some t)) (hlt : lo < hi) (hgap : ∀ j, lo < j → j < hi → qs[j]? = some none) (hno : NoEq (things (qs.set hi none))) : Twice qs hi t := by
  obtain ⟨hh, e⟩ := List.getElem?_eq_some_iff.mp h2
  obtain ⟨hl, e1⟩ := List.getElem?_eq_some_iff.mp h1
  have g := things_gap (ps := qs) (a := lo + 1) (hi - (lo + 1)) fun j h3 h4 => hgap j (by omega) (by omega)
  rw [show lo + 1 + (hi - (lo + 1)) = hi by omega, take_next hl, things_app, e1, things_some] at g
  refine ⟨h2, by rw [g]; simp, ?_⟩
  have : things (qs.set hi none) = things (qs.take hi) ++ things (none :: qs.drop (hi + 1)) := by
    rw [List.set_eq_take_append_cons_drop, if_pos hh, things_app]
  rw [this] at hno
  exact hno.prefix
theorem set2 {S : Store} {a b c d : Cell} {G : Store} : (S ++ a :: b :: c :: G).set (S.length + 1 + 1) d = S ++ a :: b :: d :: G := by rw [List.set_append_right _ _ (by omega), show S.length + 1 + 1 - S.length = 2 by omega]; rfl
theorem set3 {S : Store} {a b c d e : Cell} {G : Store} : (S ++ a :: b :: c :: d :: G).set (S.length + 3) e = S ++ a :: b :: c :: e :: G := by rw [List.set_append_right _ _ (by omega), show S.length + 3 - S.length = 3 by omega]; rfl
theorem at4 {S : Store} {a b c d e : Cell} {G : Store} : (S ++ a :: b :: c :: d :: e :: G)[S.length + 4]? = some e := by rw [List.getElem?_append_right (by omega), show S.length + 4 - S.length = 4 by omega]; rfl
theorem set4 {S : Store} {a b c d e f : Cell} {G : Store} : (S ++ a :: b :: c :: d :: e :: G).set (S.length + 4) f = S ++ a :: b :: c :: d :: f :: G := by rw [List.set_append_right _ _ (by omega), show S.length + 4 - S.length = 4 by omega]; rfl
theorem set_self {ps : List Pl} {i : Nat} {a : Pl} (h : ps[i]? = some a) : ps.set i a = ps := by
  obtain ⟨hl, e⟩ := List.getElem?_eq_some_iff.mp h
  rw [← e]; exact List.set_getElem_self hl
theorem things_at {ps : List Pl} {i : Nat} {a : Pl} (h : ps[i]? = some a) : things ps = things (ps.take i) ++ (a.toList ++ things (ps.drop (i + 1))) := by
  obtain ⟨hl, e⟩ := List.getElem?_eq_some_iff.mp h
  have : ps = ps.take i ++ (a :: ps.drop (i + 1)) := by rw [← e, List.getElem_cons_drop, List.take_append_drop]
  calc things ps = things (ps.take i ++ (a :: ps.drop (i + 1))) := by rw [← this]
    _ = _ := by rw [things_app]; cases a <;> rfl
def dueOf (ps : List Pl) (j o : Nat) (t : Th) : List Pl := if o = j then ps.set o (some t) else (ps.set o (some t)).set (max j o) none
theorem doubled_ok {ps : List Pl} {j o : Nat} {t : Th} (hst : Straight ps) (hj : ps[j]? = some (some t)) (ho : o < ps.length) (hg : o ≠ j → ∀ x, (o ≤ x ∧ x < j ∨ j < x ∧ x ≤ o) → ps[x]? = some none) :
    (∀ ms, Mend (ps.set o (some t)) ms → ms = dueOf ps j o t) ∧ things (dueOf ps j o t) = things ps := by
  have hno := straight_noEq hst
  obtain ⟨hjl, hje⟩ := List.getElem?_eq_some_iff.mp hj
  rcases Nat.lt_trichotomy o j with h | h | h
  · have hg' := hg (by omega)
    have e1 : dueOf ps j o t = (ps.set o (some t)).set j none := by unfold dueOf; rw [if_neg (by omega), Nat.max_eq_left (by omega)]
    have et : things ((ps.set o (some t)).set j none) = things ps := by
      have d1 : ((ps.set o (some t)).set j none)[j]? = some none := by simp [hjl]
      rw [things_at hj, things_at d1]
      have ga := things_gap (ps := ps) (a := o) (j - o) fun x h1 h2 => hg' x (by omega)
      rw [show o + (j - o) = j by omega] at ga
      have gb := things_gap (ps := (ps.set o (some t)).set j none) (a := o + 1) (j - (o + 1)) fun x h1 h2 => by
        rw [List.getElem?_set_ne (by omega), List.getElem?_set_ne (by omega)]; exact hg' x (by omega)
      rw [show o + 1 + (j - (o + 1)) = j by omega, take_next (by simp; omega), things_app] at gb
      rw [ga, gb]
      have e2 : ((ps.set o (some t)).set j none).take o = ps.take o := by
        rw [List.take_set_of_le (by omega), List.take_set_of_le (by omega)]
      have e3 : ((ps.set o (some t)).set j none).drop (j + 1) = ps.drop (j + 1) := by
        rw [List.drop_set_of_lt (by omega), List.drop_set_of_lt (by omega)]
      rw [e2, e3]
      simp [things, show j ≠ o by omega]
    refine ⟨fun ms hm => ?_, by rw [e1]; exact et⟩
    have tw : Twice (ps.set o (some t)) j t := twice_laid (lo := o) (by simp [ho]) (by rw [List.getElem?_set_ne (by omega)]; exact hj) h (fun x h1 h2 => by rw [List.getElem?_set_ne (by omega)]; exact hg' x (by omega)) (by rw [et]; exact hno)
    rw [e1]; exact mend_unique tw hm
  · subst h
    have e0 := set_self hj
    have e1 : dueOf ps o o t = ps := by unfold dueOf; rw [if_pos rfl, e0]
    rw [e1, e0]
    exact ⟨fun ms hm => mend_none hno hm, rfl⟩
  · have hg' := hg (by omega)
    have e0 : (ps.set o (some t)).set o none = ps := by
      rw [List.set_set]; exact set_self (hg' o (by omega))
    have e1 : dueOf ps j o t = (ps.set o (some t)).set o none := by unfold dueOf; rw [if_neg (by omega), Nat.max_eq_right (by omega)]
    refine ⟨fun ms hm => ?_, by rw [e1, e0]⟩
    have tw : Twice (ps.set o (some t)) o t := twice_laid (lo := j) (by rw [List.getElem?_set_ne (by omega)]; exact hj) (by simp [ho]) h (fun x h1 h2 => by rw [List.getElem?_set_ne (by omega)]; exact hg' x (by omega)) (by rw [e0]; exact hno)
    rw [e1]; exact mend_unique tw hm
def sp_rows_of : SPf
  | [.ref n], S, Q, _ => ∃ ps, S[n]? = some (shp ps) ∧ ps.length ≤ 100000 ∧ ∀ qs, Mend ps qs → Q (.ref S.length) (S ++ [thp (things qs)])
  | _, _, _, _ => False
theorem len_rows_of : ∀ ds S Q E, sp_rows_of ds S Q E → ds.length = 1 := by
  intro ds S Q E h; unfold sp_rows_of at h; split at h <;> first | rfl | exact h.elim
abbrev n_rows_of : List Str := ["shelf", "thing"]
def w_rows_of : WS :=
  wsRet (wComp [1] (tN 1) (wCall sp_mended [wVar 0] []) (wOp pNe (wVar 1) (wTup [])) (wVar 1))
theorem ob_rows_of : Ob n_rows_of sp_rows_of w_rows_of := by
  intro ds S Q E hS hd h
  unfold sp_rows_of at h
  split at h
  · rename_i n
    obtain ⟨ps, hn, hl, hq⟩ := h
    simp [w_rows_of, startD, sp_mended, hn]
    refine ⟨ps, rfl, hl, fun qs hm => ⟨qs.map ePl.enc, by simp [atL], comp_full (by simp) (by simp) ?_⟩⟩
    exact ret_list hS (fun i hi => by rw [List.getElem?_append_left (by simp; omega), List.getElem?_append_left hi]) (by simp) (by simp) (cls_map eTh _ _) (hq qs hm)
  · exact h.elim
def sp_law_cap : SPf
  | [.tup [.int _, .int w, .int s], .int h], S, Q, _ => (0 ≤ h ∧ h ≤ 4 ∧ 0 ≤ s ∧ s ≤ 20 ∧ 1 ≤ w ∧ w ≤ 20) ∧ Q (.int (2 ^ h.toNat * (w - h * s))) S
  | _, _, _, _ => False
theorem len_law_cap : ∀ ds S Q E, sp_law_cap ds S Q E → ds.length = 2 := by
  intro ds S Q E h; unfold sp_law_cap at h; split at h <;> first | rfl | exact h.elim
abbrev n_law_cap : List Str := ["bounds", "height"]
def w_law_cap : WS :=
  wsRet (wOp pMul (wCall sp_law_two [wVar 1] []) (wOp pSub (wOp pIx (wVar 0) (ret (.int 1))) (wOp pMul (wVar 1) (wOp pIx (wVar 0) (ret (.int 2))))))
theorem ob_law_cap : Ob n_law_cap sp_law_cap w_law_cap := by
  intro ds S Q E hS hd h
  unfold sp_law_cap at h
  split at h
  · rename_i t w s h1
    obtain ⟨⟨h2, h3, h4, h5, h6, h7⟩, hq⟩ := h
    have hsh : 0 ≤ h1 * s := Int.mul_nonneg h2 h4
    have hsh2 : h1 * s ≤ 4 * 20 := Int.mul_le_mul h3 h5 h4 (by decide)
    simp [w_law_cap, startD, sp_law_two, ix1, ix2]
    exact ⟨by omega, mulR (by omega), mulR (by omega), ret_same hq⟩
  · exact h.elim
/-! ### for over a text -/
def chD (z : Str) : List D := z.cps.toList.map fun c => .str ⟨#[c]⟩
def wsForS (b : Tg) (w : W) (body : WS) : WS := fun ρ S D E => w ρ S (fun d S1 => ∃ z, d = .str z ∧ loopG (fun _ => True) b body (chD z) ρ S1 D E) E
theorem for_str {z : Str} {g : TG} {tb : TS} {D : Ends} {σ : L2.St} {H : Hp} (Pv : Nat → L2.St → Hp → Prop) (h0 : Pv 0 σ H)
    (hs : ∀ i c σ H, z.cps[i]? = some c → Pv i σ H → g (.str ⟨#[c]⟩) σ H fun σ2 H2 => tb { D with nx := Pv (i + 1), ct := Pv (i + 1), bk := D.nx } σ2 H2) (hd : ∀ σ H, Pv z.cps.size σ H → D.nx σ H) :
    ∃ W : Nat → Nat → L2.St → Hp → Prop, (∃ m, W 0 m σ H) ∧ ∀ i m σ H, W i m σ H →
      ((Its z).stop i H ∧ D.nx σ H) ∨ ((Its z).go i H ∧ ∃ N : L2.St → Hp → Prop, (∀ σ' H', N σ' H' → ∃ m', m' < m ∧ W (i + 1) m' σ' H') ∧ ∀ x H', (Its z).yld i H x H' → g x σ H' fun σ2 H2 => tb { D with nx := N, ct := N, bk := D.nx } σ2 H2) := by
  refine ⟨fun i m σ H => m = z.cps.size - i ∧ i ≤ z.cps.size ∧ Pv i σ H, ⟨z.cps.size, by simp, Nat.zero_le _, h0⟩, ?_⟩
  rintro i m σ H ⟨rfl, hi, p⟩
  by_cases hlt : i < z.cps.size
  · refine .inr ⟨hlt, Pv (i + 1), fun σ' H' p' => ⟨z.cps.size - (i + 1), by omega, rfl, hlt, p'⟩, fun x H' y => ?_⟩
    obtain ⟨e, c, hc, y⟩ := y
    subst e y
    exact hs i c σ _ hc p
  · have e : i = z.cps.size := by omega
    subst e
    exact .inl ⟨Nat.le_refl _, hd σ H p⟩
theorem chD_get {z : Str} {i c : Nat} (h : z.cps[i]? = some c) : (chD z)[i]? = some (.str ⟨#[c]⟩) := by
  unfold chD
  rw [List.getElem?_map, Array.getElem?_toList, h]; rfl
theorem chD_length (z : Str) : (chD z).length = z.cps.size := by simp [chD]
section
variable {X : Cx} {WW : WX} {a c e : Expr} {pos : Pos} {w : W} {u : WS} {body : List Stmt}
theorem ss_forS {b : Tg} {g : TG} {tg : Expr} (hp : PassesOwn (model X.prog X.w) X.A X.env X.xe) (hc : X.calm = true) (hg : SG X tg b g) (he : PE X e (tm X.K X.mg WW w)) (hb : PSs X body (tsm X.K X.mg WW u))
    (hs : ∀ x, foldedSetIterable e X.env x = pure x := by intro _; rfl) : PS X (.For tg e body [] pos) (tsm X.K X.mg WW (wsForS b w u)) := by
  refine PS.conv (ps_for hp hc (pi_str he) hg.pg hb hs) fun D σ H q => ?_
  refine ts_ex0 (k := fun d => fun ρ S D E => ∃ z, d = .str z ∧ loopG (fun _ => True) b u (chD z) ρ S D E) q fun d v φ1 ρ S1 H1 rd ⟨rs, re, D', E', ⟨z, e1, hw⟩, hn, hr, hx⟩ => ?_
  subst e1
  refine ⟨z, rd.str_inv, ?_⟩
  refine for_str (fun i σ' H' => ∃ φ' ρ' S', Ext φ1 H1 φ' H' ∧ tsA X.K X.mg WW φ' ρ' S' (loopG (fun _ => True) b u ((chD z).drop i)) D σ' H') ⟨φ1, ρ, S1, Ext.refl, rs, re, D', E', by simpa using hw, hn, hr, hx⟩ ?_ ?_
  · rintro i x σ' H' hi ⟨φ', ρ', S', e', q'⟩
    rw [drop_cons (chD_get hi)] at q'
    exact loop_at (K := X.K) (mg := X.mg) hg q' RD.str fun σ2 H2 φ2 ρ2 S2 e2 q2 => ⟨φ2, ρ2, S2, e'.trans e2, q2⟩
  · rintro σ' H' ⟨φ', ρ', S', e', q'⟩
    rw [List.drop_of_length_le (Nat.le_of_eq (chD_length z))] at q'
    exact loop_end q'
end
/-! ### methods of texts -/
theorem rds_strs {K : PySem.W.Frag} {φ : List Addr} {H : Hp} : ∀ (ys : List Str), RDs K φ H (ys.map D.str) (ys.map V.str)
  | [] => RDs.nil
  | _ :: r => RDs.cons RD.str (rds_strs r)
theorem rds_strsM {K : PySem.W.Frag} {φ : List Addr} {H : Hp} : ∀ {ys : List Str} {vs : List V}, RDs K φ H (ys.map D.str) vs → vs = ys.map V.str
  | [], _, h => by simpa [RDs] using h
  | _ :: _, _, h => by
    obtain ⟨v, r, rfl, h1, h2⟩ := (show RDs K φ H (_ :: _) _ from h).inv
    rw [h1.str_inv, rds_strsM h2]; rfl
def mSplit : D → List D → W
  | .str a, [.str b] => fun _ S Q _ => (b.length == 0) = false ∧ a.length + 2 ≤ sizeLine ∧ (Txt.split a b).length ≤ sizeLine ∧ Q (.ref S.length) (S ++ [.lst ((Txt.split a b).map .str)])
  | _, _ => fail
def mJoin : D → List D → W
  | .str a, [.ref n] => fun _ S Q _ => ∃ ys : List Str, S[n]? = some (.lst (ys.map .str)) ∧ (ys.map (·.length)).sum + ys.length * a.length ≤ 16777216 ∧ Q (.str (Txt.join a ys)) S
  | _, _ => fail
def mFind : D → List D → W
  | .str a, [.str b] => ret (.int (Txt.find a b))
  | _, _ => fail
section
variable {X : Cx} {WW : WX}
theorem pm_split : PrM X.K X.mg WW mSplit (fun x xs H Q => ∃ a b, x = .str a ∧ xs = [.str b] ∧ (b.length == 0) = false ∧ a.length + 2 ≤ sizeLine ∧ rNewStrs (Txt.split a b) H Q) := by
  intro φ ρ S σ H Q d ds x vs r1 r2 h
  unfold mSplit at h
  split at h
  · obtain ⟨v, rfl, r⟩ := r2.one
    rw [r1.str_inv, r.str_inv]
    obtain ⟨rs, re, Q', E', ⟨h1, h2, h3, hq⟩, hn, hx⟩ := h
    exact ⟨_, _, rfl, rfl, h1, h2, fun p hp => mk_list rs (rds_strs _) (by simpa using h3) hn hq p hp⟩
  · exact h.no.elim
theorem pm_join : PrM X.K X.mg WW mJoin (fun x xs H Q => ∃ a p, ∃ ys : List Str, x = .str a ∧ xs = [.ref p] ∧ (SqL X.K H p (ys.map V.str) ∨ SqT X.K H p (ys.map V.str)) ∧
    (ys.map (·.length)).sum + ys.length * a.length ≤ 16777216 ∧ Q (.str (Txt.join a ys)) H) := by
  intro φ ρ S σ H Q d ds x vs r1 r2 h
  unfold mJoin at h
  split at h
  · obtain ⟨v, rfl, r⟩ := r2.one
    rw [r1.str_inv]
    obtain ⟨rs, re, Q', E', ⟨ys, h1, h2, hq⟩, hn, hx⟩ := h
    obtain ⟨a1, v1, rfl, ha, e1, q1, _⟩ := rs.lst h1 r
    rw [rds_strsM q1] at e1
    exact ⟨_, a1, ys, rfl, rfl, .inl (SqL.of e1), h2, hn _ _ hq _ _ _ Ext.refl rs RD.str⟩
  · exact h.no.elim
theorem pm_find : PrM X.K X.mg WW mFind (fun x xs H Q => ∃ a b, x = .str a ∧ xs = [.str b] ∧ Q (.int (Txt.find a b)) H) := by
  intro φ ρ S σ H Q d ds x vs r1 r2 h
  unfold mFind at h
  split at h
  · obtain ⟨v, rfl, r⟩ := r2.one
    rw [r1.str_inv, r.str_inv]
    exact ⟨_, _, rfl, rfl, h.ret RD.int⟩
  · exact h.no.elim
end
section
variable {X : Cx} {WW : WX} {e o : Expr} {es : List Expr} {apos cpos pos : Pos} {wo wa : W} {ws : List W}
theorem se_mStr {m : D → List D → W} {r : V → List V → Hp → VK → Prop} {id : String} {name : Str} (slot : Slot "str" name id) (ty : typeOf (.builtin id) = pure (.type "method_descriptor")) (rule : MtR X id r) (pm : PrM X.K X.mg WW m r)
    (ho : PE X o (tm X.K X.mg WW wo)) (ha : PE X e (tm X.K X.mg WW wa)) (hbase : attributeBase o name X.env (eval o X.env) = eval o X.env := by rfl)
    (hs0 : starEach [e] X.env = (false, eval e X.env) :: starEach [] X.env := by rfl)
    (hfew : ((backTo cpos (starEach [e] X.env)).all (fun x => !x.1) && (backToKw cpos (keywordEach [] X.env)).all (fun x => x.1.isSome) && decide (([e] : List Expr).length + ([] : List Keyword).length + (if ([] : List Keyword).isEmpty then 0 else 1) < 30)) = true := by rfl)
    (hline : (apos.endLine == cpos.line) = true := by rfl) (hplain : (backTo cpos (starEach [] X.env)).any (·.1) = false := by rfl) : PE X (.Call (.Attribute o name apos) [e] [] cpos) (tm X.K X.mg WW (wM "str" m wo [wa])) :=
  PE.conv (pe_bm PySem.F.plainAttrs_str slot ty rule ho (sa_cons ha sa_nil hs0) hbase hfew hline hs0 hplain) (wM_go pm)
theorem st_notinStr {a b : Expr} {wb : W} {k : Prop} (hu : k) (ha : PE X a (tm X.K X.mg WW wa)) (hb : PE X b (tm X.K X.mg WW wb)) (hm : behindInMarks .NotIn b = false := by first | exact nomark _ | rfl) : PT X (.Compare a [.NotIn] [b] pos) (ttm X.K X.mg WW (wOp pNotInS wa wb)) := st_cmp op_notIn_str pr_notInS ha hb hm
/-! ### f-texts -/
def pFmt : D → W
  | .str y => fun _ S Q _ => y.length ≤ sizeLine ∧ Q (.str y) S
  | .int i => fun _ S Q _ => i.natAbs.log2 < 1920 ∧ Q (.str (toString i)) S
  | _ => fail
theorem se_fmt {a : Expr} (ha : PE X a (tm X.K X.mg WW wa)) : PE X (.FormattedValue a (-1) none pos) (tm X.K X.mg WW (wOp1 pFmt wa)) :=
  PE.conv (pe_fmt ha) fun σ H Q q => tm_bind q fun d v φ ρ S H1 rd h => by
    unfold pFmt at h
    split at h
    · obtain ⟨rs, re, Q', E', ⟨h1, hq⟩, hn, hx⟩ := h
      exact .inl ⟨_, rd.str_inv, h1, hn _ _ hq _ _ _ Ext.refl rs RD.str⟩
    · obtain ⟨rs, re, Q', E', ⟨h1, hq⟩, hn, hx⟩ := h
      exact .inr ⟨_, rd.int_inv, h1, hn _ _ hq _ _ _ Ext.refl rs RD.str⟩
    · exact h.no.elim
def joinW : List W → Str → W
  | [], acc => ret (.str acc)
  | w :: ws, acc => bindW w fun d => match d with
    | .str y => fun ρ S Q E => (acc ++ y).length ≤ sizeLine ∧ joinW ws (acc ++ y) ρ S Q E
    | _ => fail
def wJoined (ws : List W) : W := joinW ws Str.empty
inductive PJW (X : Cx) (WW : WX) : List Expr → List W → Prop where
  | nil : PJW X WW [] []
  | cons {e : Expr} {w : W} {es : List Expr} {ws : List W} (h : PE X e (tm X.K X.mg WW w)) (r : PJW X WW es ws) : PJW X WW (e :: es) (w :: ws)
theorem PJW.pj {es : List Expr} (h : PJW X WW es ws) : PJ X es (ws.map (tm X.K X.mg WW)) := by
  induction h with
  | nil => exact .nil
  | cons h r ih => exact .cons h ih
theorem tjs_of : ∀ {ws : List W} {acc : Str} {φ : List Addr} {ρ : DEnv} {S : Store} {σ : L2.St} {H : Hp} {Q : VK}, tmA X.K X.mg WW φ ρ S (joinW ws acc) σ H Q → tJs (ws.map (tm X.K X.mg WW)) acc σ H fun out H1 => Q (.str out) H1
  | [], acc, φ, ρ, S, σ, H, Q, q => q.ret RD.str
  | w :: ws, acc, φ, ρ, S, σ, H, Q, q => by
    refine tm_bind q.tm fun d v φ1 ρ1 S1 H1 rd h => ?_
    split at h
    · obtain ⟨rs, re, Q', E', ⟨h1, hq⟩, hn, hx⟩ := h
      exact ⟨_, rd.str_inv, h1, tjs_of ⟨rs, re, Q', E', hq, hn, hx⟩⟩
    · exact h.no.elim
theorem se_joined {v1 v2 : Expr} {rest : List Expr} {w1 w2 : W} (h : PJW X WW (v1 :: v2 :: rest) (w1 :: w2 :: ws)) : PE X (.JoinedStr (v1 :: v2 :: rest) pos) (tm X.K X.mg WW (wJoined (w1 :: w2 :: ws))) :=
  PE.conv (pe_joined h.pj) fun σ H Q ⟨φ, ρ, S, q⟩ => tjs_of q
theorem se_joined1 {v1 : Expr} {w1 : W} (h : PE X v1 (tm X.K X.mg WW w1)) : PE X (.JoinedStr [v1] pos) (tm X.K X.mg WW w1) := pe_joined1 h
end
section
variable {ρ : DEnv} {S : Store} {Q : PQ} {E : PX} {DD : DEnds} {i : Nat} {a b : Str} {u : WS} {w : W} {n : Int} {t : Tg}
@[simp] theorem e_forS : wsForS t w u ρ S DD E = w ρ S (fun d S1 => ∃ z, d = .str z ∧ loopG (fun _ => True) t u (chD z) ρ S1 DD E) E := rfl
@[simp] theorem e_split : mSplit (.str a) [.str b] ρ S Q E = ((b.length == 0) = false ∧ a.length + 2 ≤ sizeLine ∧ (Txt.split a b).length ≤ sizeLine ∧ Q (.ref S.length) (S ++ [.lst ((Txt.split a b).map .str)])) := rfl
@[simp] theorem e_join : mJoin (.str a) [.ref i] ρ S Q E = ∃ ys : List Str, S[i]? = some (.lst (ys.map .str)) ∧ (ys.map (·.length)).sum + ys.length * a.length ≤ 16777216 ∧ Q (.str (Txt.join a ys)) S := rfl
@[simp] theorem e_find : mFind (.str a) [.str b] ρ S Q E = Q (.int (Txt.find a b)) S := rfl
@[simp] theorem e_isTs : isT "str" S (.str a) = True := by simp [isT]
@[simp] theorem e_fmtS : pFmt (.str a) ρ S Q E = (a.length ≤ sizeLine ∧ Q (.str a) S) := rfl
@[simp] theorem e_fmtI : pFmt (.int n) ρ S Q E = (n.natAbs.log2 < 1920 ∧ Q (.str (toString n)) S) := rfl
@[simp] theorem e_notInS : pNotInS (.str a) (.str b) ρ S Q E = Q (.bl ((Builtin.Str.occurrences b a 0 b.length 1).isEmpty)) S := rfl
@[simp] theorem e_intS : bIntS [.str a] ρ S Q E = ∃ n, PySem.intText? a = some n ∧ a.length ≤ 640 ∧ Q (.int n) S := rfl
@[simp] theorem e_joined {ws : List W} : wJoined ws ρ S Q E = joinW ws Str.empty ρ S Q E := rfl
@[simp] theorem e_jw0 {acc : Str} : joinW [] acc ρ S Q E = Q (.str acc) S := rfl
@[simp] theorem e_jw1 {ws : List W} {acc : Str} : joinW (w :: ws) acc ρ S Q E = w ρ S (fun d S1 => (match d with
    | .str y => fun ρ S Q E => (acc ++ y).length ≤ sizeLine ∧ joinW ws (acc ++ y) ρ S Q E
    | _ => fail : W) ρ S1 Q E) E := rfl
end
end GS

set_option exponentiation.threshold 600
namespace GS
open PySem PySem.Spec PyProof.Rows L2 TL
/-! ### numbers as texts -/
def digB (l : List Nat) : Bool := l.all fun c => decide (48 ≤ c ∧ c ≤ 57)
def figsL (x : List Nat) : List Nat := if x.head? = some 45 then x.tail else x
def numOf (x : List Nat) : Option Int :=
  if (figsL x).length < 1 ∨ 60 < (figsL x).length then none
  else if digB (figsL x) = false then none
  else if (figsL x).head? = some 48 ∧ x ≠ [48] then none
  else some (if x.head? = some 45 then -((NumText.digitsVal (figsL x) : Nat) : Int) else ((NumText.digitsVal (figsL x) : Nat) : Int))
def strI (i : Int) : List Nat := if i < 0 then 45 :: numL i.natAbs else numL i.natAbs
theorem tl_str (i : Int) : tl (Str.ofString (toString i)) = strI i := by
  cases i with
  | ofNat n =>
    show tl (Str.ofString (toString ((n : Nat) : Int))) = _
    rw [tl_num]
    unfold strI
    rw [if_neg (by show ¬ ((n : Int) < 0); omega)]
    rfl
  | negSucc n =>
    have e : tl (Str.ofString (toString (Int.negSucc n))) = 45 :: tl (Str.ofString (toString ((n + 1 : Nat) : Int))) := by
      rw [tl_ofString, tl_ofString]
      show ("-" ++ Nat.repr (n + 1)).toList.map Char.toNat = 45 :: (Nat.repr (n + 1)).toList.map Char.toNat
      rw [String.toList_append, List.map_append]
      rfl
    rw [e, tl_num]
    unfold strI
    rw [if_pos (by omega)]
    rfl
theorem digB_num (n : Nat) : digB (numL n) = true := by
  unfold digB
  rw [List.all_eq_true]
  intro c hc
  exact decide_eq_true (numL_digits n c hc)
theorem digB_all {l : List Nat} (h : digB l = true) : NumText.AllDigits l := by
  unfold digB at h
  rw [List.all_eq_true] at h
  exact fun c hc => of_decide_eq_true (h c hc)
theorem numL_head (n : Nat) : (numL n).head? = some 48 → n = 0 := by
  induction n using Nat.strongRecOn with
  | _ n ih =>
    intro h
    by_cases hn : n < 10
    · rw [numL_lt hn] at h
      simp at h
      omega
    · rw [numL_step (by omega)] at h
      have hne := numL_ne (n / 10)
      have e : (numL (n / 10) ++ [48 + n % 10]).head? = (numL (n / 10)).head? := by
        cases q : numL (n / 10) with
        | nil => exact absurd q hne
        | cons a l => rfl
      rw [e] at h
      have := ih (n / 10) (by omega) h
      omega
theorem numL_head45 (n : Nat) : (numL n).head? ≠ some 45 := fun h => by
  have hm : 45 ∈ numL n := List.mem_of_mem_head? h
  exact numL_free (n := n) (s := 45) (.inl (by omega)) hm
theorem figs_str (i : Int) : figsL (strI i) = numL i.natAbs := by
  unfold figsL strI
  split
  · simp
  · rw [if_neg (numL_head45 _)]
theorem head_str (i : Int) : ((strI i).head? = some 45) = (i < 0) := by
  unfold strI
  split
  · simp_all
  · rename_i h
    simp [numL_head45, h]
/-- a number's text is read back -/
theorem numOf_str {i : Int} (h : i.natAbs < 10 ^ 60) : numOf (strI i) = some i := by
  unfold numOf
  rw [figs_str, digB_num]
  have h1 : 1 ≤ (numL i.natAbs).length := List.length_pos_iff.mpr (numL_ne _)
  have h2 := numL_len (k := 60) (by omega) h
  rw [if_neg (by omega), if_neg (by simp), if_neg, numL_val]
  · simp only [head_str]
    congr 1
    split <;> omega
  · rintro ⟨h3, h4⟩
    have h5 := numL_head _ h3
    have h6 : i = 0 := by omega
    subst h6
    exact h4 (by decide)
theorem strI_ne (i : Int) : strI i ≠ [] := by
  unfold strI
  split
  · simp
  · exact numL_ne _
/-- a number's text has no other signs -/
theorem strI_mem {i : Int} {c : Nat} (h : c ∈ strI i) : c = 45 ∨ (48 ≤ c ∧ c ≤ 57) := by
  unfold strI at h
  split at h
  · rcases List.mem_cons.mp h with h | h
    · exact .inl h
    · exact .inr (numL_digits _ c h)
  · exact .inr (numL_digits _ c h)
theorem strI_len {i : Int} {k : Nat} (hk : 0 < k) (h : i.natAbs < 10 ^ k) : (strI i).length ≤ k + 1 := by
  have := numL_len hk h
  unfold strI
  split
  · simp; omega
  · omega
theorem log60 {i : Int} {k : Nat} (hk : k ≤ 500) (h : i.natAbs < 10 ^ k) : i.natAbs.log2 < 1920 := by
  have h1 : (10 : Nat) ^ k ≤ 10 ^ 500 := Nat.pow_le_pow_right (by decide) hk
  have h2 : (10 : Nat) ^ 500 < 2 ^ 1900 := by decide +kernel
  exact Nat.lt_of_lt_of_le (PySem.Flt.log2_lt_of (by decide) (show i.natAbs < 2 ^ 1900 by omega)) (by decide)
/-! cuts of a text -/
theorem tl_cut0 (z : Str) : tl (cutS z none (some 1)) = (tl z).take 1 := by
  show (((z.cps.toList.drop (HT.sIx z.length 0 none)).take (HT.sIx z.length z.length (some 1) - HT.sIx z.length 0 none)).toArray).toList = _
  have e : HT.sIx z.length 0 none = 0 := rfl
  have e2 : HT.sIx z.length z.length (some 1) = min 1 z.length := by
    unfold HT.sIx
    simp
  rw [e, e2, List.drop_zero, Nat.sub_zero]
  show z.cps.toList.take (min 1 z.length) = z.cps.toList.take 1
  have hl : z.cps.toList.length = z.length := Array.length_toList
  rw [← hl, ← List.take_take, List.take_length]
theorem tl_cut1 (z : Str) : tl (cutS z (some 1) none) = (tl z).drop 1 := by
  show (((z.cps.toList.drop (HT.sIx z.length 0 (some 1))).take (HT.sIx z.length z.length none - HT.sIx z.length 0 (some 1))).toArray).toList = _
  have e : HT.sIx z.length z.length none = z.length := rfl
  have e2 : HT.sIx z.length 0 (some 1) = min 1 z.length := by
    unfold HT.sIx
    simp
  have hl : z.cps.toList.length = z.length := Array.length_toList
  rw [e, e2]
  show (z.cps.toList.drop (min 1 z.length)).take (z.length - min 1 z.length) = z.cps.toList.drop 1
  by_cases h : 1 ≤ z.length
  · rw [Nat.min_eq_left h, List.take_of_length_le (by rw [List.length_drop, hl]; omega)]
  · have : z.cps.toList = [] := List.length_eq_zero_iff.mp (by omega)
    rw [this]; simp
theorem str_eq_iff {x y : Str} : x = y ↔ tl x = tl y := ⟨fun e => by rw [e], ext_tl⟩
theorem head_minus (z : Str) : cutS z none (some 1) = ("-" : Str) ↔ (tl z).head? = some 45 := by
  rw [str_eq_iff, tl_cut0, show tl ("-" : Str) = [45] by decide +kernel]
  cases tl z with
  | nil => simp
  | cons a l => simp
theorem tl_figs : tl ("0123456789" : Str) = [48, 49, 50, 51, 52, 53, 54, 55, 56, 57] := by decide +kernel
theorem in_figs (c : Nat) : (Builtin.Str.occurrences ("0123456789" : Str) ⟨#[c]⟩ 0 ("0123456789" : Str).length 1).isEmpty = !decide (48 ≤ c ∧ c ≤ 57) := by
  rw [PyProof.Rows.empty_one]
  congr 1
  rw [show ("0123456789" : Str).cps.toList = [48, 49, 50, 51, 52, 53, 54, 55, 56, 57] from tl_figs, decide_eq_decide]
  simp
  omega
def sp_write_number : SPf
  | [.int n], S, Q, _ => n.natAbs < 10 ^ 500 ∧ Q (.str (toString n)) S
  | _, _, _, _ => False
def sp_read_number : SPf
  | [.str x], S, Q, E => x.length ≤ sizeLine ∧ (∀ n, numOf (tl x) = some n → Q (.int n) S) ∧ (numOf (tl x) = none → E "NoText" S)
  | [d], S, _, E => (∃ a, tyName S d = some a ∧ a ≠ "str") ∧ E "NoText" S
  | _, _, _, _ => False
theorem len_write_number : ∀ ds S Q E, sp_write_number ds S Q E → ds.length = 1 := by
  intro ds S Q E h; unfold sp_write_number at h; split at h <;> first | rfl | exact h.elim
theorem len_read_number : ∀ ds S Q E, sp_read_number ds S Q E → ds.length = 1 := by
  intro ds S Q E h; unfold sp_read_number at h; split at h <;> first | rfl | exact h.elim
abbrev n_write_number : List Str := ["number"]
def w_write_number : WS :=
  wsRet (wB bStr [wVar 0])

abbrev n_read_number : List Str := ["text", "figures", "sign"]
def w_read_number_r1 : WS :=
  wsSeq (wsIf (wAnd (wOp pEq (wOp pIx (wVar 1) (ret (.int 0))) (ret (.str "0"))) (wOp pNe (wVar 0) (ret (.str "0")))) (wsRaise "NoText") (wsNil)) (wsRet (wB bIntS [wVar 0]))
def w_read_number_r2 : WS :=
  wsSeq (wsForS (tN 2) (wVar 1) (wsIf (wOp pNotInS (wVar 2) (ret (.str "0123456789"))) (wsRaise "NoText") (wsNil))) (w_read_number_r1)
def w_read_number_r3 : WS :=
  wsSeq (wsIf (wOr (wOp pLt (wB bLen [wVar 1]) (ret (.int 1))) (wOp pGt (wB bLen [wVar 1]) (ret (.int 60)))) (wsRaise "NoText") (wsNil)) (w_read_number_r2)
def w_read_number_r4 : WS :=
  wsSeq (wsSet 1 (wVar 0)) (wsSeq (wsIf (wOp pEq (wSl (wVar 0) none (some (ret (.int 1)))) (ret (.str "-"))) (wsSet 1 (wSl (wVar 0) (some (ret (.int 1))) none)) (wsNil)) (w_read_number_r3))
def w_read_number : WS :=
  wsSeq (wsIf (wNot (wOp1 (pIsi "str") (wVar 0))) (wsRaise "NoText") (wsNil)) (w_read_number_r4)

theorem ob_write_number : Ob n_write_number sp_write_number w_write_number := by
  intro ds S Q E hS hd h
  unfold sp_write_number at h
  split at h
  · rename_i n
    simp [w_write_number, startD]
    exact ⟨log60 (Nat.le_refl _) h.1, ret_same h.2⟩
  · exact h.elim
theorem digitsVal_cut {x : Str} (h1 : (figsL (tl x)) ≠ []) (h2 : digB (figsL (tl x)) = true) (h3 : (figsL (tl x)).length ≤ 60) : intText? x = some (if (tl x).head? = some 45 then -((NumText.digitsVal (figsL (tl x)) : Nat) : Int) else ((NumText.digitsVal (figsL (tl x)) : Nat) : Int)) := by
  unfold figsL at *
  split at h1
  · rename_i hh
    rw [if_pos hh] at h2 h3 ⊢
    rw [if_pos hh]
    cases e : tl x with
    | nil => rw [e] at hh; cases hh
    | cons c cs =>
      rw [e] at hh h1 h2 h3
      simp at hh
      subst hh
      refine intText_neg e (digB_all h2) h1 ?_
      rw [len_tl, e]
      simp at h3 ⊢
      omega
  · rename_i hh
    rw [if_neg hh] at h2 h3 ⊢
    rw [if_neg hh]
    exact intText_digits (digB_all h2) h1 (by rw [len_tl]; omega)
theorem ob_read_number : Ob n_read_number sp_read_number w_read_number := by
  intro ds S Q E hS hd h
  unfold sp_read_number at h
  split at h
  · rename_i x
    obtain ⟨hz, hq, he⟩ := h
    have hno : (numOf (tl x) = none) → RetE S.length E "NoText" S := fun h => .inl (he h)
    have hyz : (figsL (tl x)).length ≤ (tl x).length := by
      unfold figsL
      split <;> simp
    have hx := len_tl x
    have r3 : ∀ y : Str, tl y = figsL (tl x) → w_read_number_r3 [some (.str x), some (.str y), none] S ⟨fun _ S' => RetQ S.length Q .non S', RetQ S.length Q⟩ (fun c _ S' => RetE S.length E c S') := by
      intro y hy
      have hyl : y.length = (figsL (tl x)).length := by rw [len_tl, hy]
      have hyz : y.length ≤ sizeLine := by omega
      simp -implicitDefEqProofs [hyz, w_read_number_r3]
      have bad : (y.length < 1 ∨ 60 < y.length) → RetE S.length E "NoText" S := fun h => hno (by unfold numOf; rw [if_pos (by omega)])
      have good : 1 ≤ y.length → y.length ≤ 60 → w_read_number_r2 [some (.str x), some (.str y), none] S ⟨fun _ S' => RetQ S.length Q .non S', RetQ S.length Q⟩ (fun c _ S' => RetE S.length E c S') := by
        intro h1 h2
        simp -implicitDefEqProofs [w_read_number_r2]
        refine loop_inv (fun i ρ S' => S' = S ∧ (∀ c ∈ (tl y).take i, 48 ≤ c ∧ c ≤ 57) ∧ ∃ o, ρ = [some (.str x), some (.str y), o]) _ 0 _ _ ⟨rfl, by simp, none, rfl⟩ (fun _ _ _ _ => trivial) ?_ ?_
        · rintro i z ρ S' N hi ⟨rfl, hall, o, rfl⟩ hN
          rw [Nat.zero_add] at hall hN
          have hi' : (tl y)[i]?.map (fun c => D.str ⟨#[c]⟩) = some z := by rw [← List.getElem?_map]; exact hi
          obtain ⟨c, hc, rfl⟩ := Option.map_eq_some_iff.mp hi'
          have hfi := in_figs c
          simp -implicitDefEqProofs [pNotInS]
          by_cases hd : 48 ≤ c ∧ c ≤ 57
          · rw [decide_eq_true hd] at hfi
            refine .inl ⟨by simpa using hfi, hN _ _ ⟨rfl, fun e he => ?_, _, rfl⟩⟩
            rw [List.take_add_one, hc] at he
            rcases List.mem_append.mp he with he | he
            · exact hall e he
            · have : e = c := by simpa using he
              rw [this]; exact hd
          · rw [decide_eq_false hd] at hfi
            refine .inr ⟨by simpa using hfi, hno ?_⟩
            unfold numOf
            rw [if_neg (by omega), if_pos]
            unfold digB
            rw [List.all_eq_false]
            refine ⟨c, ?_, by simp [hd]⟩
            rw [← hy]
            exact List.mem_of_getElem? hc
        · rintro ρ S' ⟨rfl, hall, o, rfl⟩
          have hdig : digB (figsL (tl x)) = true := by
            unfold digB
            rw [List.all_eq_true, ← hy]
            intro c hc
            refine decide_eq_true (hall c ?_)
            rw [Nat.zero_add, chD_length, List.take_of_length_le]
            · exact hc
            · simp
          have hne : figsL (tl x) ≠ [] := fun e => by rw [e] at hyl; simp at hyl; omega
          have hread := digitsVal_cut hne hdig (by omega)
          obtain ⟨c0, cs, hc0⟩ := List.exists_cons_of_ne_nil hne
          have h0 : atI y.cps.toList 0 = some c0 := by
            rw [show y.cps.toList = c0 :: cs from hy.trans hc0]
            exact atI_lt (xs := c0 :: cs) (i := 0) (by omega) (by simp)
          have hx0 : (x = ("0" : Str)) ↔ tl x = [48] := by rw [str_eq_iff, show tl ("0" : Str) = [48] by decide +kernel]
          have hs0 : ((⟨#[c0]⟩ : Str) = ("0" : Str)) ↔ c0 = 48 := by rw [str_eq_iff, show tl ("0" : Str) = [48] by decide +kernel]; simp [tl]
          have h640 : x.length ≤ 640 := by
            have : (tl x).length ≤ (figsL (tl x)).length + 1 := by
              unfold figsL
              split <;> simp
              omega
            omega
          simp -implicitDefEqProofs [w_read_number_r1, h0, hyz, hx0, hs0, bIntS, h640, hread]
          have hnum : (figsL (tl x)).head? = some c0 := by rw [hc0]; rfl
          have hv : ¬ (c0 = 48 ∧ tl x ≠ [48]) → numOf (tl x) = some (if (tl x).head? = some 45 then -((NumText.digitsVal (figsL (tl x)) : Nat) : Int) else ((NumText.digitsVal (figsL (tl x)) : Nat) : Int)) := fun h => by
            unfold numOf
            rw [if_neg (by omega), if_neg (by simp [hdig]), if_neg]
            rw [hnum]
            simpa using h
          have hb : (c0 = 48 ∧ tl x ≠ [48]) → numOf (tl x) = none := fun h => by
            unfold numOf
            rw [if_neg (by omega), if_neg (by simp [hdig]), if_pos]
            rw [hnum]
            exact ⟨by rw [h.1], h.2⟩
          by_cases hc48 : c0 = 48
          · rw [if_pos hc48]
            by_cases hx1 : tl x = [48]
            · exact .inl ⟨hx1, ret_same (hq _ (hv fun h => h.2 hx1))⟩
            · exact .inr ⟨hx1, hno (hb ⟨hc48, hx1⟩)⟩
          · rw [if_neg hc48]
            exact ret_same (hq _ (hv fun h => hc48 h.1))
      split
      · rename_i h1
        exact bad (.inl (by omega))
      · rename_i h1
        by_cases h2 : y.length ≤ 60
        · exact .inl ⟨by omega, good (by omega) h2⟩
        · exact .inr ⟨by omega, bad (.inr (by omega))⟩
    simp -implicitDefEqProofs [w_read_number, w_read_number_r4, startD, isi, hz]
    by_cases hm : cutS x none (some 1) = ("-" : Str)
    · refine .inr ⟨hm, r3 _ ?_⟩
      rw [head_minus] at hm
      rw [tl_cut1]
      unfold figsL
      rw [if_pos hm, List.drop_one]
    · refine .inl ⟨hm, r3 _ ?_⟩
      rw [head_minus] at hm
      unfold figsL
      rw [if_neg hm]
  · rename_i d hno
    obtain ⟨⟨a, ha, hne⟩, he⟩ := h
    simp -implicitDefEqProofs [w_read_number, startD, isi, ha, hne]
    exact .inl he
  · exact h.elim
end GS

set_option exponentiation.threshold 600
namespace GS
open PySem PySem.Spec PyProof.Rows L2 TL
/-! ### a text repeated; a dict with one pair -/
def repS (x : Str) (k : Nat) : Str := ⟨(List.replicate k x.cps).foldl (· ++ ·) #[]⟩
theorem repS_len (x : Str) (k : Nat) : (repS x k).length = k * x.length := by
  have key : ∀ (k : Nat) (acc : Array Nat), ((List.replicate k x.cps).foldl (· ++ ·) acc).size = acc.size + k * x.cps.size := by
    intro k
    induction k with
    | zero => intro acc; simp
    | succ k ih =>
      intro acc
      rw [List.replicate_succ, List.foldl_cons, ih, Array.size_append, Nat.succ_mul]
      omega
  have := key k #[]
  simpa [repS, Str.length] using this
def pMulS : D → D → W
  | .str x, .int n => fun _ S Q _ => 2 ≤ n ∧ n ≤ 1000 ∧ 1 ≤ x.length ∧ x.length ≤ 1000 ∧ Q (.str (repS x n.toNat)) S
  | _, _ => fail
theorem op_mulS {X : Cx} : OpR X (binaryOp .Mult) (fun x y H Q => ∃ (a : Str) (n : Int), x = .str a ∧ y = .int n ∧ 2 ≤ n ∧ n ≤ 1000 ∧ 1 ≤ a.length ∧ a.length ≤ 1000 ∧ Q (.str (repS a n.toNat)) H) := by
  intro pins s σ H x y v u Q I rx ry h
  obtain ⟨a, n, rfl, rfl, h1, h2, h3, h4, q⟩ := h
  obtain ⟨t, rfl⟩ := rx
  obtain ⟨t', rfl⟩ := ry
  have hl : (repS a n.toNat).length ≤ 1000000 := by
    rw [repS_len]
    have : n.toNat * a.length ≤ 1000 * 1000 := Nat.mul_le_mul (by omega) h4
    omega
  have hne : ¬ (n == 1 || a.length == 0) = true := by simp; omega
  refine PySem.P.mul_str (by simp; omega) (fun _ _ => ?_) (fun _ _ => ?_) ?_
  · have : (1000 : Int) ≤ (2 ^ 63 - 1) / n := by
      rw [Int.le_ediv_iff_mul_le (by omega)]
      omega
    omega
  · have h5 : a.length * n.toNat ≤ 1000 * 1000 := Nat.mul_le_mul h4 (by omega)
    have h6 : 1000000 ≤ sizeLine := by decide
    unfold Builtin.Str.tooLong
    exact decide_eq_false (by omega)
  · rw [if_neg (by omega), if_neg hne]
    exact ⟨Nat.le_trans hl (by decide), .str _, H, I.tok _, ⟨_, rfl⟩, q⟩
section
variable {K : PySem.W.Frag} {mg : Str → Option Value} {WW : WX}
theorem pr_mulS : Pr2 K mg WW pMulS (fun x y H Q => ∃ (a : Str) (n : Int), x = .str a ∧ y = .int n ∧ 2 ≤ n ∧ n ≤ 1000 ∧ 1 ≤ a.length ∧ a.length ≤ 1000 ∧ Q (.str (repS a n.toNat)) H) := by
  intro φ ρ S σ H Q d1 d2 x y r1 r2 h
  unfold pMulS at h
  split at h
  · rw [r1.str_inv, r2.int_inv]
    obtain ⟨rs, re, Q', E', ⟨h1, h2, h3, h4, hq⟩, hn, hx⟩ := h
    exact ⟨_, _, rfl, rfl, h1, h2, h3, h4, hn _ _ hq _ _ _ Ext.refl rs RD.str⟩
  · exact h.no.elim
end
def wDisp1 (k : Str) (v : Int) : W := fun _ S Q _ => Q (.ref S.length) (S ++ [.dct [(.inr k, .int v)]])
section
variable {X : Cx} {WW : WX} {a b : Expr} {pos p1 p2 : Pos} {wa wb : W} {k : Str} {v : Int} {i j : Nat}
theorem se_mulS (ha : PE X a (tm X.K X.mg WW wa)) (hb : PE X b (tm X.K X.mg WW wb)) : PE X (.BinOp a .Mult b pos) (tm X.K X.mg WW (wOp pMulS wa wb)) := se_bin op_mulS pr_mulS ha hb
theorem upd_twice {H : Hp} {p : Addr} {a b : HO} : upd (upd H p a) p b = upd H p b := by
  funext x
  unfold upd
  split <;> rfl
theorem se_disp1 : PE X (.Dict [some (.Constant (.str k) i p1)] [.Constant (.int v) j p2] pos) (tm X.K X.mg WW (wDisp1 k v)) :=
  PE.conv (pe_disp (pps_cons pe_str pe_int pps_nil) rfl rfl (by simp) (by simp)) fun σ H Q ⟨φ, ρ, S, rs, re, Q', E', hw, hn, hx⟩ p hp => by
    refine ⟨upd_same, [(.inr k, .int v)], rfl, by simp, ?_⟩
    rw [upd_twice]
    have x := Ext.alloc (o := .dK [(.inr k, .int v)]) rs hp
    exact hn _ _ hw _ _ _ x (rs.alloc hp ⟨[(.inr k, .int v)], upd_same, RKs.cons RD.int RKs.nil', by show 1 ≤ _; decide⟩) (alloc_ref rs p)
end
section
variable {ρ : DEnv} {S : Store} {Q : PQ} {E : PX} {n v : Int} {x k : Str}
@[simp] theorem e_mulS : pMulS (.str x) (.int n) ρ S Q E = (2 ≤ n ∧ n ≤ 1000 ∧ 1 ≤ x.length ∧ x.length ≤ 1000 ∧ Q (.str (repS x n.toNat)) S) := rfl
@[simp] theorem e_disp1 : wDisp1 k v ρ S Q E = Q (.ref S.length) (S ++ [.dct [(.inr k, .int v)]]) := rfl
end
/-! ### x in a list, of data of any depth -/
def pInD (a b : D) : W := fun _ S Q _ => ∃ p ps, DPy S a p ∧ DPy S b (.list ps) ∧ SeqAt.shaped p = true ∧ SeqAt.shaped (.list ps) = true ∧ Q (.bl (ps.any fun z => PyData.eqv z p)) S
section
variable {K : PySem.W.Frag} {mg : Str → Option Value} {WW : WX}
theorem pr_inD : Pr2 K mg WW pInD (rInD K) := by
  intro φ ρ S σ H Q d1 d2 x y r1 r2 h
  obtain ⟨rs, re, Q', E', ⟨p, ps, h1, h2, h3, h4, hq⟩, hn, hx⟩ := h
  exact ⟨p, ps, h1.dp rs r1, h2.dp rs r2, h3, h4, hn _ _ hq _ _ _ Ext.refl rs RD.bl⟩
end
section
variable {X : Cx} {WW : WX} {a b o e1 e2 : Expr} {apos cpos pos : Pos} {wa wb wo w1 w2 : W}
theorem se_inD (hu : X.A.units + 65 < cLine) (ha : PE X a (tm X.K X.mg WW wa)) (hb : PE X b (tm X.K X.mg WW wb)) (hm : behindInMarks .In b = false := by first | exact nomark _ | rfl) : PE X (.Compare a [.In] [b] pos) (tm X.K X.mg WW (wOp pInD wa wb)) := se_cmp (op_inD hu) pr_inD ha hb hm
theorem st_inD (hu : X.A.units + 65 < cLine) (ha : PE X a (tm X.K X.mg WW wa)) (hb : PE X b (tm X.K X.mg WW wb)) (hm : behindInMarks .In b = false := by first | exact nomark _ | rfl) : PT X (.Compare a [.In] [b] pos) (ttm X.K X.mg WW (wOp pInD wa wb)) := st_cmp (op_inD hu) pr_inD ha hb hm
/-! ### xs.insert(i, y) -/
def mInsert : D → List D → W
  | .ref n, [.int i, y] => fun _ S Q _ => ∃ xs, S[n]? = some (.lst xs) ∧ xs.length < sizeLine ∧ (0 ≤ i ∧ i < 2 ^ 63) ∧ Q .non (S.set n (.lst (xs.take i.toNat ++ [y] ++ xs.drop i.toNat)))
  | _, _ => fail
theorem pm_insert : PrM X.K X.mg WW mInsert (fun x vs H Q => ∃ (l : Addr) (xs : List V) (i : Int) (y : V), x = .ref l ∧ vs = [.int i, y] ∧ H l = some (.lst xs) ∧ xs.length < sizeLine ∧ 0 ≤ i ∧ i < 2 ^ 63 ∧
    Q .non (upd H l (.lst (xs.take i.toNat ++ [y] ++ xs.drop i.toNat)))) := by
  intro φ ρ S σ H Q d ds x vs r1 r2 h
  unfold mInsert at h
  split at h
  · rename_i n i y
    obtain ⟨v1, t1, rfl, ri, r2⟩ := r2.inv
    obtain ⟨v2, t2, rfl, ry, r2⟩ := r2.inv
    have : t2 = [] := by simpa [RDs] using r2
    subst this
    rw [ri.int_inv]
    obtain ⟨rs, re, Q', E', ⟨xs, h1, hz, hi, hq⟩, hn, hx⟩ := h
    obtain ⟨a1, us, rfl, ha, e1, q1, z⟩ := rs.lst h1 r1
    refine ⟨a1, us, i, v2, rfl, rfl, e1, by rw [← q1.length]; exact hz, hi.1, hi.2, ?_⟩
    refine wr_list (xs := xs) rs ha (((q1.take _).append (RDs.cons ry RDs.nil)).append (q1.drop _)) ?_ RD.non hn hq
    simp
    omega
  · exact h.no.elim
theorem se_insert (ho : PE X o (tm X.K X.mg WW wo)) (h1 : PE X e1 (tm X.K X.mg WW w1)) (h2 : PE X e2 (tm X.K X.mg WW w2)) (hbase : attributeBase o "insert" X.env (eval o X.env) = eval o X.env := by rfl)
    (hs0 : starEach [e1, e2] X.env = (false, eval e1 X.env) :: starEach [e2] X.env := by rfl) (hs1 : starEach [e2] X.env = (false, eval e2 X.env) :: starEach [] X.env := by rfl)
    (hfew : ((backTo cpos (starEach [e1, e2] X.env)).all (fun x => !x.1) && (backToKw cpos (keywordEach [] X.env)).all (fun x => x.1.isSome) && decide (([e1, e2] : List Expr).length + ([] : List Keyword).length + (if ([] : List Keyword).isEmpty then 0 else 1) < 30)) = true := by rfl)
    (hline : (apos.endLine == cpos.line) = true := by rfl) (hplain : (backTo cpos (starEach [e2] X.env)).any (·.1) = false := by rfl) : PE X (.Call (.Attribute o "insert" apos) [e1, e2] [] cpos) (tm X.K X.mg WW (wM "list" mInsert wo [w1, w2])) :=
  PE.conv (pe_bm PySem.F.plainAttrs_list PySem.F.slot_list_insert PySem.F.type_list_insert mt_insert ho (sa_cons h1 (sa_cons h2 sa_nil hs1) hs0) hbase hfew hline hs0 hplain) (wM_go pm_insert)
end
theorem e_inD {a b : D} {ρ : DEnv} {S : Store} {Q : PQ} {E : PX} : pInD a b ρ S Q E = ∃ p ps, DPy S a p ∧ DPy S b (.list ps) ∧ SeqAt.shaped p = true ∧ SeqAt.shaped (.list ps) = true ∧ Q (.bl (ps.any fun z => PyData.eqv z p)) S := rfl
@[simp] theorem e_insert {n : Nat} {i : Int} {y : D} {ρ : DEnv} {S : Store} {Q : PQ} {E : PX} : mInsert (.ref n) [.int i, y] ρ S Q E = ∃ xs, S[n]? = some (.lst xs) ∧ xs.length < sizeLine ∧ (0 ≤ i ∧ i < 2 ^ 63) ∧ Q .non (S.set n (.lst (xs.take i.toNat ++ [y] ++ xs.drop i.toNat))) := rfl
end GS

set_option exponentiation.threshold 600
namespace GS
open PySem PySem.Spec PyProof.Rows L2 TL
/-! ### disks as texts -/
def pairOf (x : List Nat) : Option Th := match spl [44] 0 [] x with
  | [a, b] => match numOf a, numOf b with
    | some i, some j => some (i, j)
    | _, _ => none
  | _ => none
def placeOf (x : List Nat) : Option Pl := if x = [46] then some none else (pairOf x).map some
def mapO {α β : Type} (f : α → Option β) : List α → Option (List β)
  | [] => some []
  | a :: r => match f a, mapO f r with
    | some b, some bs => some (b :: bs)
    | _, _ => none
def areaOf (x : List Nat) : Option (List Pl) := mapO placeOf (spl [32] 0 [] x)
def diskOf (x : List Nat) : Option Dk := match spl [32, 47, 32] 0 [] x with
  | [a, b, c] => match areaOf a, areaOf b, pairOf c with
    | some p, some q, some t => some ⟨p, q, [some t]⟩
    | _, _, _ => none
  | _ => none
def strT (t : Th) : List Nat := strI t.1 ++ 44 :: strI t.2
def strP : Pl → List Nat
  | none => [46]
  | some t => strT t
def strA (ps : List Pl) : List Nat := joinL [32] (ps.map strP)
def strD (a b : List Pl) (t : Th) : List Nat := strA a ++ ([32, 47, 32] ++ (strA b ++ ([32, 47, 32] ++ strT t)))
def NumOk (i : Int) : Prop := i.natAbs < 10 ^ 60
def ThOk (t : Th) : Prop := NumOk t.1 ∧ NumOk t.2
def PlOk (p : Pl) : Prop := ∀ t, p = some t → ThOk t
theorem strT_mem {t : Th} {c : Nat} (h : c ∈ strT t) : c = 44 ∨ c = 45 ∨ (48 ≤ c ∧ c ≤ 57) := by
  unfold strT at h
  rcases List.mem_append.mp h with h | h
  · exact .inr (strI_mem h)
  · rcases List.mem_cons.mp h with h | h
    · exact .inl h
    · exact .inr (strI_mem h)
theorem strP_mem {p : Pl} {c : Nat} (h : c ∈ strP p) : c = 44 ∨ c = 45 ∨ c = 46 ∨ (48 ≤ c ∧ c ≤ 57) := by
  cases p with
  | none => simp [strP] at h; omega
  | some t => have := strT_mem (t := t) h; omega
theorem joinL_mem {S : List Nat} {c : Nat} : ∀ {l : List (List Nat)}, c ∈ joinL S l → c ∈ S ∨ ∃ p ∈ l, c ∈ p
  | [], h => by simp [joinL] at h
  | [p], h => .inr ⟨p, by simp, h⟩
  | p :: q :: r, h => by
    have h : c ∈ p ++ (S ++ joinL S (q :: r)) := h
    rcases List.mem_append.mp h with h | h
    · exact .inr ⟨p, by simp, h⟩
    · rcases List.mem_append.mp h with h | h
      · exact .inl h
      · rcases joinL_mem h with h | ⟨x, hx, h⟩
        · exact .inl h
        · exact .inr ⟨x, List.mem_cons_of_mem _ hx, h⟩
theorem strA_mem {ps : List Pl} {c : Nat} (h : c ∈ strA ps) : c = 32 ∨ c = 44 ∨ c = 45 ∨ c = 46 ∨ (48 ≤ c ∧ c ≤ 57) := by
  rcases joinL_mem h with h | ⟨p, hp, h⟩
  · simp at h; exact .inl h
  · obtain ⟨q, _, rfl⟩ := List.mem_map.mp hp
    exact .inr (strP_mem h)
theorem pairOf_str {t : Th} (h : ThOk t) : pairOf (strT t) = some t := by
  have e : spl [44] 0 [] (strT t) = [strI t.1, strI t.2] := by
    have := spl_join (s := 44) (S := []) (parts := [strI t.1, strI t.2]) (by simp) (fun p hp hm => by
      simp at hp
      rcases hp with rfl | rfl <;> have := strI_mem hm <;> omega)
    exact this
  unfold pairOf
  rw [e]
  simp only [numOf_str h.1, numOf_str h.2]
theorem placeOf_str {p : Pl} (h : PlOk p) : placeOf (strP p) = some p := by
  unfold placeOf
  cases p with
  | none => exact if_pos rfl
  | some t =>
    rw [if_neg, show strP (some t) = strT t from rfl, pairOf_str (h t rfl)]
    · rfl
    · intro e
      have h2 : 44 ∈ strP (some t) := by
        show 44 ∈ strI t.1 ++ 44 :: strI t.2
        simp
      rw [e] at h2
      simp at h2
theorem mapO_all {α β γ : Type} {f : β → Option γ} {g : α → β} {k : α → γ} : ∀ {l : List α}, (∀ a ∈ l, f (g a) = some (k a)) → mapO f (l.map g) = some (l.map k)
  | [], _ => rfl
  | a :: r, h => by
    show (match f (g a), mapO f (r.map g) with
      | some b, some bs => some (b :: bs)
      | _, _ => none) = _
    rw [h a (by simp), mapO_all fun x hx => h x (List.mem_cons_of_mem _ hx)]
    rfl
theorem areaOf_str {ps : List Pl} (hne : ps ≠ []) (h : ∀ p ∈ ps, PlOk p) : areaOf (strA ps) = some ps := by
  unfold areaOf strA
  rw [spl_join (by simpa using hne) fun p hp hm => by
    obtain ⟨q, _, rfl⟩ := List.mem_map.mp hp
    have := strP_mem hm
    omega]
  have := mapO_all (f := placeOf) (g := strP) (k := fun p => p) (l := ps) fun p hp => placeOf_str (h p hp)
  rw [this]
  simp
/-- " / " does not begin in a text that has no stroke -/
theorem no_stroke {p rest : List Nat} (h : 47 ∉ p) : ∀ i, i < p.length → pre [32, 47, 32] ((p ++ ([32, 47, 32] ++ rest)).drop i) = false := by
  intro i hi
  have e : (p ++ ([32, 47, 32] ++ rest)).drop i = p.drop i ++ ([32, 47, 32] ++ rest) := by rw [List.drop_append_of_le_length (by omega)]
  rw [e]
  have hne : p.drop i ≠ [] := fun e => by have := congrArg List.length e; simp at this; omega
  have hm : 47 ∉ p.drop i := fun hm => h (List.mem_of_mem_drop hm)
  generalize p.drop i = q at *
  match q, hne, hm with
  | [a], _, _ => simp [pre]
  | a :: b :: r, _, hm =>
    unfold pre
    simp
    intro _ hb
    simp at hm
    omega
theorem no_stroke_end {p : List Nat} (h : 47 ∉ p) : ∀ i, i < p.length → pre [32, 47, 32] (p.drop i) = false := by
  intro i hi
  have hm : 47 ∉ p.drop i := fun hm => h (List.mem_of_mem_drop hm)
  generalize p.drop i = q at *
  match q, hm with
  | [], _ => rfl
  | [a], _ => simp [pre]
  | a :: b :: r, hm =>
    unfold pre
    simp
    intro _ hb
    simp at hm
    omega
theorem spl_disk {a b c : List Nat} (ha : 47 ∉ a) (hb : 47 ∉ b) (hc : 47 ∉ c) : spl [32, 47, 32] 0 [] (a ++ ([32, 47, 32] ++ (b ++ ([32, 47, 32] ++ c)))) = [a, b, c] := by
  rw [spl_part (by simp) (no_stroke ha), spl_part (by simp) (no_stroke hb), spl_last (no_stroke_end hc)]
  simp
theorem diskOf_str {a b : List Pl} {t : Th} (h1 : a ≠ []) (h2 : b ≠ []) (ha : ∀ p ∈ a, PlOk p) (hb : ∀ p ∈ b, PlOk p) (ht : ThOk t) : diskOf (strD a b t) = some ⟨a, b, [some t]⟩ := by
  have hA : ∀ ps : List Pl, 47 ∉ strA ps := fun ps hm => by have := strA_mem hm; omega
  have hT : 47 ∉ strT t := fun hm => by have := strT_mem hm; omega
  unfold diskOf strD
  rw [spl_disk (hA a) (hA b) hT]
  simp only [areaOf_str h1 ha, areaOf_str h2 hb, pairOf_str ht]
/-! lengths -/
theorem strT_len {t : Th} (h : ThOk t) : (strT t).length ≤ 123 := by
  have h1 := strI_len (k := 60) (by omega) h.1
  have h2 := strI_len (k := 60) (by omega) h.2
  unfold strT
  simp
  omega
theorem strP_len {p : Pl} (h : PlOk p) : (strP p).length ≤ 123 := by
  cases p with
  | none => simp [strP]
  | some t => exact strT_len (h t rfl)
/-! ### the program's texts -/
def tS (l : List Nat) : Str := ⟨l.toArray⟩
theorem tl_tS (l : List Nat) : tl (tS l) = l := rfl
theorem tS_tl (x : Str) : tS (tl x) = x := mk_tl x
theorem tS_len (l : List Nat) : (tS l).length = l.length := by rw [len_tl]; rfl
def sp_write_pair : SPf
  | [.tup [.int a, .int b]], S, Q, _ => (a.natAbs < 10 ^ 500 ∧ b.natAbs < 10 ^ 500) ∧ Q (.str (tS (strT (a, b)))) S
  | _, _, _, _ => False
def sp_write_place : SPf
  | [d], S, Q, _ => ∃ p : Pl, d = ePl.enc p ∧ PlOk p ∧ Q (.str (tS (strP p))) S
  | _, _, _, _ => False
def sp_write_area : SPf
  | [.ref n], S, Q, _ => ∃ ps : List Pl, S[n]? = some (shp ps) ∧ ps.length ≤ 1000 ∧ (∀ p ∈ ps, PlOk p) ∧ Q (.str (tS (strA ps))) S
  | _, _, _, _ => False
def sp_write_disk : SPf
  | [.ref n], S, Q, _ => ∃ (a b : List Pl) (t : Th), DkAt S n ⟨a, b, [some t]⟩ ∧ (a.length ≤ 1000 ∧ b.length ≤ 1000) ∧ ((∀ p ∈ a, PlOk p) ∧ (∀ p ∈ b, PlOk p) ∧ ThOk t) ∧ Q (.str (tS (strD a b t))) S
  | _, _, _, _ => False
def sp_read_pair : SPf
  | [.str x], S, Q, E => x.length ≤ 1000000 ∧ (∀ t, pairOf (tl x) = some t → Q (eTh.enc t) S) ∧ (pairOf (tl x) = none → E "NoText" S)
  | _, _, _, _ => False
def sp_read_place : SPf
  | [.str x], S, Q, E => x.length ≤ 1000000 ∧ (∀ p, placeOf (tl x) = some p → Q (ePl.enc p) S) ∧ (placeOf (tl x) = none → E "NoText" S)
  | _, _, _, _ => False
theorem len_write_pair : ∀ ds S Q E, sp_write_pair ds S Q E → ds.length = 1 := by
  intro ds S Q E h; unfold sp_write_pair at h; split at h <;> first | rfl | exact h.elim
theorem len_write_place : ∀ ds S Q E, sp_write_place ds S Q E → ds.length = 1 := by
  intro ds S Q E h; unfold sp_write_place at h; split at h <;> first | rfl | exact h.elim
theorem len_write_area : ∀ ds S Q E, sp_write_area ds S Q E → ds.length = 1 := by
  intro ds S Q E h; unfold sp_write_area at h; split at h <;> first | rfl | exact h.elim
theorem len_write_disk : ∀ ds S Q E, sp_write_disk ds S Q E → ds.length = 1 := by
  intro ds S Q E h; unfold sp_write_disk at h; split at h <;> first | rfl | exact h.elim
theorem len_read_pair : ∀ ds S Q E, sp_read_pair ds S Q E → ds.length = 1 := by
  intro ds S Q E h; unfold sp_read_pair at h; split at h <;> first | rfl | exact h.elim
theorem len_read_place : ∀ ds S Q E, sp_read_place ds S Q E → ds.length = 1 := by
  intro ds S Q E h; unfold sp_read_place at h; split at h <;> first | rfl | exact h.elim
abbrev n_write_pair : List Str := ["pair"]
def w_write_pair : WS :=
  wsRet (wOp pAdd (wOp pAdd (wCall sp_write_number [wOp pIx (wVar 0) (ret (.int 0))] []) (ret (.str ","))) (wCall sp_write_number [wOp pIx (wVar 0) (ret (.int 1))] []))

abbrev n_write_place : List Str := ["thing"]
def w_write_place : WS :=
  wsSeq (wsIf (wOp pEq (wVar 0) (wTup [])) (wsRet (ret (.str "."))) (wsNil)) (wsRet (wCall sp_write_pair [wVar 0] []))

abbrev n_write_area : List Str := ["area", "thing"]
def w_write_area : WS :=
  wsRet (wM "str" mJoin (ret (.str " ")) [wComp [1] (tN 1) (wVar 0) (wYes) (wCall sp_write_place [wVar 1] [])])

abbrev n_write_disk : List Str := ["disk"]
def w_write_disk : WS :=
  wsRet (wM "str" mJoin (ret (.str " / ")) [wLst [wCall sp_write_area [wOp pIx (wVar 0) (ret (.int 0))] [], wCall sp_write_area [wOp pIx (wVar 0) (ret (.int 1))] [], wCall sp_write_pair [wOp pIx (wOp pIx (wVar 0) (ret (.int 2))) (ret (.int 0))] []]])

abbrev n_read_pair : List Str := ["text", "words"]
def w_read_pair : WS :=
  wsSeq (wsSet 1 (wM "str" mSplit (wVar 0) [ret (.str ",")])) (wsSeq (wsIf (wOp pNe (wB bLen [wVar 1]) (ret (.int 2))) (wsRaise "NoText") (wsNil)) (wsRet (wTup [wCall sp_read_number [wOp pIx (wVar 1) (ret (.int 0))] [], wCall sp_read_number [wOp pIx (wVar 1) (ret (.int 1))] []])))

abbrev n_read_place : List Str := ["text"]
def w_read_place : WS :=
  wsSeq (wsIf (wOp pEq (wVar 0) (ret (.str "."))) (wsRet (wTup [])) (wsNil)) (wsRet (wCall sp_read_pair [wVar 0] []))

theorem str_add {a b : Str} : a ++ b = tS (tl a ++ tl b) := ext_tl (by rw [tl_append]; rfl)
theorem tl_comma : tl ("," : Str) = [44] := by decide +kernel
theorem tl_dot : tl ("." : Str) = [46] := by decide +kernel
theorem tl_blank : tl (" " : Str) = [32] := by decide +kernel
theorem tl_stroke : tl (" / " : Str) = [32, 47, 32] := by decide +kernel
theorem strI_len500 {i : Int} (h : i.natAbs < 10 ^ 500) : (strI i).length ≤ 501 := strI_len (by omega) h
theorem NumOk.p {i : Int} (h : NumOk i) : i.natAbs < 10 ^ 500 := Nat.lt_trans h (by decide +kernel)
/-! parts of a text -/
theorem spl_lens (S : List Nat) : ∀ (l : List Nat) (k : Nat) (acc : List Nat), (spl S k acc l).length ≤ l.length + 1 ∧ ∀ p ∈ spl S k acc l, p.length ≤ acc.length + l.length
  | [], k, acc => by rw [spl_nil]; simp
  | c :: r, k + 1, acc => by
    have h := spl_lens S r k acc
    have e : spl S (k + 1) acc (c :: r) = spl S k acc r := rfl
    rw [e]
    refine ⟨by simp; omega, fun p hp => ?_⟩
    have := h.2 p hp
    simp; omega
  | c :: r, 0, acc => by
    cases hp : pre S (c :: r) with
    | true =>
      have h := spl_lens S r (S.length - 1) []
      rw [spl_hit hp]
      refine ⟨by simp; omega, fun p hm => ?_⟩
      rcases List.mem_cons.mp hm with rfl | hm
      · simp
      · have := h.2 p hm
        simp at this ⊢; omega
    | false =>
      have h := spl_lens S r 0 (acc ++ [c])
      rw [spl_miss hp]
      refine ⟨by simp; omega, fun p hm => ?_⟩
      have := h.2 p hm
      simp at this ⊢; omega
theorem split_tS {x y : Str} {s : Nat} {S : List Nat} (ey : tl y = s :: S) (hk : y.cps.all (· < 256) = true) : Txt.split x y = (spl (s :: S) 0 [] (tl x)).map tS := by
  refine map_tl_inj ?_
  rw [split_spl _ y (by rw [ey]; simp) (kind_ok hk), ey, List.map_map]
  exact (List.map_id' _).symm
theorem split_comma (x : Str) : Txt.split x ("," : Str) = (spl [44] 0 [] (tl x)).map tS := split_tS tl_comma (by decide +kernel)
theorem split_blank (x : Str) : Txt.split x (" " : Str) = (spl [32] 0 [] (tl x)).map tS := split_tS tl_blank (by decide +kernel)
theorem split_stroke (x : Str) : Txt.split x (" / " : Str) = (spl [32, 47, 32] 0 [] (tl x)).map tS := split_tS tl_stroke (by decide +kernel)
theorem join_tS {y : Str} (l : List (List Nat)) : Txt.join y (l.map tS) = tS (joinL (tl y) l) := by
  refine ext_tl ?_
  rw [join_eq, tl_join, List.map_map]
  show joinL (tl y) (l.map fun p => tl (tS p)) = joinL (tl y) l
  congr 1
  exact List.map_id' _
theorem keep_app {S S' : Store} (hl : S.length ≤ S'.length) (h : ∀ i, i < S.length → S'[i]? = S[i]?) : ∃ G, S' = S ++ G := ⟨S'.drop S.length, by
  apply List.ext_getElem?
  intro i
  by_cases hi : i < S.length
  · rw [List.getElem?_append_left hi, h i hi]
  · rw [List.getElem?_append_right (by omega), List.getElem?_drop]
    congr 1
    omega⟩
theorem ret_keep {S S' : Store} {Q : PQ} {d : D} (hS : ClS S) (hl : S.length ≤ S'.length) (h : ∀ i, i < S.length → S'[i]? = S[i]?) (hd : Cl S.length d) (hq : Q d S) : RetQ S.length Q d S' := by
  obtain ⟨G, rfl⟩ := keep_app hl h
  exact ret_pure hS hd hq
theorem raise_pure {S G : Store} {E : Str → Store → Prop} {c : Str} (hS : ClS S) (h : E c S) : RetE S.length E c (S ++ G) := .inr ⟨S, Gc.drop rfl hS (by simp only [Cl]), h⟩
theorem ob_write_pair : Ob n_write_pair sp_write_pair w_write_pair := by
  intro ds S Q E hS hd h
  unfold sp_write_pair at h
  split at h
  · rename_i a b
    obtain ⟨⟨ha, hb⟩, hq⟩ := h
    simp -implicitDefEqProofs [w_write_pair, startD, jx0, jx1, sp_write_number, ha, hb, -Int.toString_eq_repr]
    have l1 := strI_len500 ha
    have l2 := strI_len500 hb
    have e1 : (Str.ofString (toString a)).length = (strI a).length := by rw [len_tl, tl_str]
    have e2 : (Str.ofString (toString b)).length = (strI b).length := by rw [len_tl, tl_str]
    have e3 : ("," : Str).length = 1 := by decide +kernel
    have hz : 2000 ≤ sizeLine := by decide
    refine ⟨?_, ?_, ?_⟩
    · rw [e1, e3]; omega
    · rw [Str.length_append, e1, e2, e3]; omega
    · have e : Str.ofString (toString a) ++ ("," : Str) ++ Str.ofString (toString b) = tS (strT (a, b)) := ext_tl (by
        rw [tl_append, tl_append, tl_str, tl_str, tl_comma, tl_tS]
        unfold strT
        simp)
      rw [e]
      exact ret_same hq
  · exact h.elim
theorem ob_write_place : Ob n_write_place sp_write_place w_write_place := by
  intro ds S Q E hS hd h
  unfold sp_write_place at h
  split at h
  · obtain ⟨p, rfl, hp, hq⟩ := h
    simp -implicitDefEqProofs [w_write_place, startD]
    cases p with
    | none =>
      refine .inr ⟨rfl, ?_⟩
      have e : ("." : Str) = tS (strP none) := ext_tl tl_dot
      rw [e]
      exact ret_same hq
    | some t => exact .inl ⟨rfl, ⟨(hp t rfl).1.p, (hp t rfl).2.p⟩, ret_same hq⟩
  · exact h.elim
def unPl : D → Pl
  | .tup [.int a, .int b] => some (a, b)
  | _ => none
theorem unPl_enc (p : Pl) : unPl (ePl.enc p) = p := by cases p <;> rfl
theorem strA_fit {l : List (List Nat)} {k : Nat} (h : ∀ p ∈ l, p.length ≤ k) : (l.map (·.length)).sum ≤ l.length * k := by
  induction l with
  | nil => simp
  | cons a r ih =>
    have h1 := h a (by simp)
    have h2 := ih fun p hp => h p (List.mem_cons_of_mem _ hp)
    simp only [List.map_cons, List.sum_cons, List.length_cons, Nat.succ_mul]
    omega
theorem joinL_len {S : List Nat} {k : Nat} : ∀ {l : List (List Nat)}, (∀ p ∈ l, p.length ≤ k) → (joinL S l).length ≤ l.length * (k + S.length)
  | [], _ => by simp [joinL]
  | [p], h => by have := h p (by simp); simp [joinL]; omega
  | p :: q :: r, h => by
    have h1 := h p (by simp)
    have h2 := joinL_len (S := S) (l := q :: r) fun x hx => h x (List.mem_cons_of_mem _ hx)
    show (p ++ (S ++ joinL S (q :: r))).length ≤ _
    simp only [List.length_append, List.length_cons, Nat.succ_mul] at h2 ⊢
    omega
theorem strA_len {ps : List Pl} (h : ∀ p ∈ ps, PlOk p) : (strA ps).length ≤ ps.length * 124 := by
  have := joinL_len (S := [32]) (k := 123) (l := ps.map strP) fun p hp => by
    obtain ⟨q, hq, rfl⟩ := List.mem_map.mp hp
    exact strP_len (h q hq)
  unfold strA
  simpa using this
theorem ob_write_area : Ob n_write_area sp_write_area w_write_area := by
  intro ds S Q E hS hd h
  unfold sp_write_area at h
  split at h
  · rename_i n
    obtain ⟨ps, hn, hl, hp, hq⟩ := h
    simp -implicitDefEqProofs [w_write_area, startD]
    refine ⟨_, hn, comp_listY (fun d => .str (tS (strP (unPl d)))) hn (fun x hx N hN => ?_) ?_⟩
    · obtain ⟨p, hpm, rfl⟩ := List.mem_map.mp hx
      rw [unPl_enc] at hN
      exact ⟨p, rfl, hp p hpm, hN⟩
    · have e : (ps.map ePl.enc).map (fun d => D.str (tS (strP (unPl d)))) = ((ps.map strP).map tS).map .str := by
        rw [List.map_map, List.map_map, List.map_map]
        refine List.map_congr_left fun p _ => ?_
        show D.str (tS (strP (unPl (ePl.enc p)))) = D.str (tS (strP p))
        rw [unPl_enc]
      rw [e]
      refine ⟨_, get_at, ?_, ?_⟩
      · have h1 := strA_fit (l := ps.map strP) (k := 123) fun p hp' => by
          obtain ⟨q, hq, rfl⟩ := List.mem_map.mp hp'
          exact strP_len (hp q hq)
        rw [List.map_map, show (fun x : Str => x.length) ∘ tS = fun l : List Nat => l.length from funext fun l => tS_len l, show (" " : Str).length = 1 by decide +kernel]
        simp only [List.length_map] at h1 ⊢
        omega
      · rw [join_tS, tl_blank]
        exact ret_pure hS (by simp only [Cl]) hq
  · exact h.elim
theorem ob_write_disk : Ob n_write_disk sp_write_disk w_write_disk := by
  intro ds S Q E hS hd h
  unfold sp_write_disk at h
  split at h
  · rename_i n
    obtain ⟨a, b, t, dk, hl, hp, hq⟩ := h
    obtain ⟨i, j, l, e0, e1, e2, e3⟩ := dk
    simp -implicitDefEqProofs [w_write_disk, startD, e0, e3, ix_three.1, ix_three.2.1, ix_three.2.2, jx00, ePl]
    refine ⟨a, e1, hl.1, hp.1, _, e0, _, rfl, b, e2, hl.2, hp.2.1, _, e0, _, rfl, ?_⟩
    simp -implicitDefEqProofs [e3, jx00, ePl]
    refine ⟨⟨hp.2.2.1.p, hp.2.2.2.p⟩, [tS (strA a), tS (strA b), tS (strT t)], rfl, ?_, ?_⟩
    · have h1 := strA_len hp.1
      have h2 := strA_len hp.2.1
      have h3 := strT_len hp.2.2
      simp [tS_len, show (" / " : Str).length = 3 by decide +kernel]
      omega
    · have := join_tS (y := (" / " : Str)) [strA a, strA b, strT t]
      rw [tl_stroke] at this
      rw [show [tS (strA a), tS (strA b), tS (strT t)] = [strA a, strA b, strT t].map tS from rfl, this]
      exact ret_pure hS (by simp only [Cl]) hq
  · exact h.elim
theorem ob_read_pair : Ob n_read_pair sp_read_pair w_read_pair := by
  intro ds S Q E hS hd h
  unfold sp_read_pair at h
  split at h
  · rename_i x
    obtain ⟨hz, hq, he⟩ := h
    have hz4 : 4000000 ≤ sizeLine := by decide
    have hl := len_tl x
    simp -implicitDefEqProofs [w_read_pair, startD, split_comma]
    have hs := spl_lens [44] (tl x) 0 []
    refine ⟨by decide +kernel, by omega, by omega, ?_⟩
    have hP : pairOf (tl x) = match spl [44] 0 [] (tl x) with
      | [a, b] => match numOf a, numOf b with
        | some i, some j => some (i, j)
        | _, _ => none
      | _ => none := rfl
    by_cases h2 : (spl [44] 0 [] (tl x)).length = 2
    · refine .inl ⟨by omega, ?_⟩
      generalize spl [44] 0 [] (tl x) = ws at *
      match ws, h2 with
      | [a, b], _ =>
        have la := hs.2 a (by simp)
        have lb := hs.2 b (by simp)
        rw [List.length_nil, Nat.zero_add] at la lb
        refine ⟨.str (tS a), rfl, by rw [tS_len]; omega, fun i hi => ⟨_, get_at, .str (tS b), rfl, by rw [tS_len]; omega, fun j hj => ?_, fun hj => ?_⟩, fun hi => ?_⟩
        · refine ret_pure hS (by simp [Cl, Cls']) (hq (i, j) ?_)
          rw [hP]
          show (match numOf a, numOf b with
            | some i, some j => some (i, j)
            | _, _ => none) = _
          rw [show numOf a = some i from hi, show numOf b = some j from hj]
        · refine raise_pure hS (he ?_)
          rw [hP]
          show (match numOf a, numOf b with
            | some i, some j => some (i, j)
            | _, _ => none) = _
          rw [show numOf a = some i from hi, show numOf b = none from hj]
        · refine raise_pure hS (he ?_)
          rw [hP]
          show (match numOf a, numOf b with
            | some i, some j => some (i, j)
            | _, _ => none) = _
          rw [show numOf a = none from hi]
    · refine .inr ⟨by omega, raise_pure hS (he ?_)⟩
      rw [hP]
      split
      · rename_i heq
        rw [heq] at h2
        exact absurd rfl h2
      · rfl
  · exact h.elim
theorem ob_read_place : Ob n_read_place sp_read_place w_read_place := by
  intro ds S Q E hS hd h
  unfold sp_read_place at h
  split at h
  · rename_i x
    obtain ⟨hz, hq, he⟩ := h
    simp -implicitDefEqProofs [w_read_place, startD]
    by_cases hx : x = ("." : Str)
    · refine .inr ⟨hx, ret_same (hq none ?_)⟩
      rw [str_eq_iff, tl_dot] at hx
      unfold placeOf
      rw [if_pos hx]
    · refine .inl ⟨hx, hz, fun t ht => ret_same (hq (some t) ?_), fun hn => .inl (he ?_)⟩
      · rw [str_eq_iff, tl_dot] at hx
        unfold placeOf
        rw [if_neg hx, ht]; rfl
      · rw [str_eq_iff, tl_dot] at hx
        unfold placeOf
        rw [if_neg hx, hn]; rfl
  · exact h.elim

/-! ### an exception leaves a list comprehension -/
section
variable {M : Model} {A : Around} {E : Value → Shared → Prop} {s : Shared} {Z : Obj → Prop} {base : Heap} {env : Env} {outer : List Env} {L e : Addr}
theorem looks_otherZ {fl : Value} {Q : Unit → Shared → Prop} (hZ : HandSPX.Steady Z) (hfr : A.frames = some (env :: outer)) (hf : env.frame = some L) (hkb : base.StaysIn s.heap) (hen : base.get? e = none) (hl : s.heap.FunFrames base (env :: outer))
    (ht : HandSPX.TracedZ s.heap base e Z fl) (hfl : (fl == rawInt L) = false) (hQ : ∀ h', HandSPX.HeldZ base (env :: outer) e Z L h' → s.heap.UpToSlots h' → Q () { s with heap := h' }) : wpAny M A (noteFrame (.ref e) env) Q E s := by
  obtain ⟨oe, vs, T, oT, ts, he, hz, hd, h1, hnT, hTe, hT, hdT, h3⟩ := ht
  unfold noteFrame
  simp only [hf]
  refine wpAny_bind (wpAny_field he hd h1 ?_)
  rw [if_pos (show (Value.ref T != Value.none) = true from by simp)]
  refine wpAny_bind (wpAny_field hT hdT h3 ?_)
  rw [if_neg (show ¬ ((fl == rawInt L) = true) from by rw [hfl]; simp)]
  refine wpAny_bind (wpAny_setField hT hdT (Array.getElem?_eq_some_iff.mp h3).1 ?_)
  have other : ∀ b, b ≠ T → (s.heap.update T (Obj.mapFields (·.setIfInBounds 3 Value.none))).get? b = s.heap.get? b := fun b hb => Heap.get?_update_other _ _ (Ne.symm hb)
  have noRecord : ∀ b o, s.heap.get? b = some o → (∀ vs, o.data ≠ .fields vs) → b ≠ T := fun b o hb hnf q => by
    rw [q, hT] at hb; injection hb with hb; subst hb; exact hnf ts hdT
  refine HandSPX.wpAny_entryZ hZ hfr (hl.of_keeps fun b o hb hnf => ⟨o, (other b (noRecord b o hb hnf)).trans hb, rfl⟩) hf ((other e (Ne.symm hTe)).trans he)
    (fun b o hbo => (other b fun q => by rw [q, hnT] at hbo; cases hbo).trans (hkb b o hbo)) hen hd (Array.getElem?_eq_some_iff.mp h1).1 hz fun h' hN => ?_
  obtain ⟨x1, x2, x3, x4⟩ := hN
  exact hQ h' ⟨x1, hen, x2, x3⟩ fun b o hb hnf => x4 b o ((other b (noRecord b o hb hnf)).trans hb) hnf
end
theorem funFrames_base {h B B' : Heap} (hb : ∀ b, B.get? b = none → B'.get? b = none) : ∀ {l : List Env}, h.FunFrames B l → h.FunFrames B' l
  | [], _ => trivial
  | _ :: _, ⟨k, ⟨L, o, h1, h2, h3, h4⟩, r⟩ => ⟨k, ⟨L, o, h1, hb _ h2, h3, h4⟩, funFrames_base hb r⟩
abbrev WB (W : WX) (σ : L2.St) : WX := fun cls d _ H => W cls d σ H
abbrev blkX (X : Cx) (s : Shared) (H : Hp) (scope : Scope) (cl : List (Str × Addr)) (C : Addr) (fp : List Addr) (xe : Value → Shared → Prop) : Cx := (X.blk s H scope (compEnvC scope cl C X.env) fp).wish xe
section
variable {X : Cx} {W : WX} {pins : List (Addr × Obj)} {σ : L2.St} {H3 : Hp} {s3 : Shared} {scope : Scope} {cl : List (Str × Addr)} {C : Addr} {fp : List Addr}
theorem takes_blk {xe : Value → Shared → Prop} (hs : X.stack = X.env :: X.outer) (hf : X.env.frame = some X.env.locals) (tk : L2.Takes X W) (I3 : Inv X pins σ H3 s3) (hC : s3.heap.objs.size ≤ C) (f3 : ∀ b ∈ fp, FpOk X pins H3 b)
    (hx : ∀ u s', CompFails (model X.prog X.w) X.A X.xe (compEnvC scope cl C X.env) u s' → xe u s') :
    L2.Takes (blkX X s3 H3 scope cl C fp (notedBy (model X.prog X.w) X.A (compEnvC scope cl C X.env) xe)) (WB W σ) := by
  rintro u s' ⟨a, B, sI, pb, σ', H', cls, d, rfl, I, nb, up, sky, na, os, ag, w⟩
  have fr : X.A.frames = some (X.env :: X.outer) := by rw [I3.ok.frames, hs]
  have nC' : H' C = none := I.free
  have fC : FpOk X pins H' C := I3.fpOk hC nC'
  have fin : ∀ h1, HandSPX.HeldZ B (X.env :: X.outer) a (Zc cls d) X.env.locals h1 → s'.heap.UpToSlots h1 → xe (.ref a) { s' with heap := h1 } := by
    intro h1 hh up1
    refine hx _ _ ?_
    have J := L2.Inv.landed (s' := { s' with heap := h1 }) I nb hh.1 (up.trans up1) os ag
    obtain ⟨m, hn, _⟩ := J.loc
    have hn : h1.Ns C m := hn
    refine ⟨m, hn, fun h' m' hn' sb => ?_⟩
    obtain ⟨k1, k2, k3, oe, vs, T, oT, ts, he, hz, hd, h1', hnT, hTe, hT, hdT, h3⟩ := hh
    obtain ⟨oC, es, ep, hC1, hC2, _⟩ := hn
    have hn' : h'.Ns C m' := hn'
    have sb : Heap.SameBut C h1 h' := sb
    have aC : a ≠ C := fun e => by subst e; rw [he] at hC1; cases hC1; rw [hd] at hC2; cases hC2
    have TC : T ≠ C := fun e => by subst e; rw [hT] at hC1; cases hC1; rw [hdT] at hC2; cases hC2
    obtain ⟨G, g1, g2⟩ := L2.restrict sI.heap fun b => b != C
    obtain ⟨B', b1, b2⟩ := L2.restrict B fun b => b != C
    have nCb : ∀ {b}, b ≠ C → (b != C) = true := fun h => by simpa using h
    have Cb : (C != C) = false := by simp
    have lo : ∀ b o, B'.get? b = some o → b ≠ C ∧ B.get? b = some o := fun b o e => by
      by_cases hb : b = C
      · subst hb; rw [b2 _ Cb] at e; cases e
      · exact ⟨hb, by rw [← b1 b (nCb hb)]; exact e⟩
    have lG : ∀ b o, G.get? b = some o → b ≠ C ∧ sI.heap.get? b = some o := fun b o e => by
      by_cases hb : b = C
      · subst hb; rw [g2 _ Cb] at e; cases e
      · exact ⟨hb, by rw [← g1 b (nCb hb)]; exact e⟩
    have nB : ∀ b, B.get? b = none → B'.get? b = none := fun b e => by
      cases q : B'.get? b with
      | none => rfl
      | some o => rw [(lo b o q).2] at e; cases e
    have st' : B'.StaysIn h' := fun b o e => by
      obtain ⟨hb, e⟩ := lo b o e
      exact (sb.2 b hb).trans (k1 b o e)
    have ff' : h'.FunFrames B' (X.env :: X.outer) := funFrames_base nB (Heap.FunFrames.sameBut sb hn' k3)
    have tr' : HandSPX.TracedZ h' B' a (Zc cls d) (rawInt X.env.locals) :=
      ⟨oe, vs, T, oT, ts, (sb.2 a aC).trans he, hz, hd, h1', nB _ hnT, hTe, (sb.2 T TC).trans hT, hdT, h3⟩
    show wpAny (model X.prog X.w) X.A (passOn "comprehension.variables-let-go" (.ref a) (compEnvC scope cl C X.env) : Sem Value) (fun _ _ => False) X.xe { s' with heap := h' }
    unfold PySem.passOn
    refine wpAny_bind (wpAny_field (s := { s' with heap := h' }) ((sb.2 a aC).trans he) hd h1' ?_)
    rw [if_neg (show ¬ ((Value.ref T == Value.none) = true) from by simp)]
    have go : wpAny (model X.prog X.w) X.A (setFlight (.ref a) (compEnvC scope cl C X.env).frame) (fun _ s4 => wpAny (model X.prog X.w) X.A (throw (.ref a) : Sem Value) (fun _ _ => False) X.xe s4) X.xe { s' with heap := h' } := by
      show wpAny (model X.prog X.w) X.A (setFlight (.ref a) X.env.frame) _ _ _
      rw [hf]
      refine HandSPX.setFlight_anyZ st' ff' tr' fun h2 q1 q2 q3 up2 => wpAny_throw (tk _ _ ?_)
      have I0 : Inv X pins σ H' sI := I3.call' (ch := fp) I.os I.base I.hok I.bare fun b hb => ⟨(f3 b hb).2.2.2.1, (f3 b hb).2.1, (f3 b hb).2.2.2.2.1, (f3 b hb).2.2.2.2.2⟩
      have IG : Inv X pins σ H' { sI with heap := G } := I0.turned (t' := sI.toks) (fun b o hb e => (g1 b (nCb hb)).trans e) nC' fC.2.1 fC.2.2.2.1 fC.2.2.2.2.1 fC.2.2.2.2.2
      refine ⟨a, B', { sI with heap := G }, pins, σ, H', cls, d, rfl, IG, fun b o e hb => ?_, fun b o e hn0 => ?_, ?_, na, os, ag, w⟩
      · obtain ⟨hbC, e⟩ := lG b o e
        exact (b1 b (nCb hbC)).trans (nb b o e hb)
      · obtain ⟨hbC, e⟩ := lG b o e
        obtain ⟨sl1, e1⟩ := (up.trans up1) b o e hn0
        obtain ⟨sl2, e2⟩ := up2 b _ ((sb.2 b hbC).trans e1) hn0
        exact ⟨sl2, e2⟩
      · rw [hs]
        exact .inr (.inr ⟨q1, nB _ k2, q2, q3⟩)
    first
      | exact wpAny_bind (wpAny_pure (wpAny_bind go))
      | exact wpAny_bind go
  show wpAny (model X.prog X.w) X.A (noteFrame (.ref a) X.env) (fun _ s'' => xe (.ref a) s'') xe s'
  have sky : Sky B (X.env :: X.outer) a (Zc cls d) C s'.heap := by rw [← hs]; exact sky
  rcases sky with ⟨hB, hn, hl, oe, vs, he, hz, hd, h1⟩ | ⟨k1, k2, k3, k4⟩ | ⟨k1, k2, k3, k4⟩
  · exact HandSPX.look_newZ Zc.steady fr hl hf he hB hn hd h1 hz fin
  · exact HandSPX.looks_onZ Zc.steady fr hf ⟨k1, k2, k3, k4⟩ fin
  · refine looks_otherZ Zc.steady fr hf k1 k2 k3 k4 ?_ fin
    have := fC.2.1
    simp only [rawInt, beq_eq_false_iff_ne, ne_eq, Value.int.injEq]
    exact fun e => this (by exact Int.ofNat.inj e.1)
end
section
variable {X : Cx}
def tLcX (wi : TI) (g : TG) (tt : TT) (te : WX → TE) (vs : List Nat) (WW : WX) : TE := fun σ H Q => tLc wi g tt (te (WB WW σ)) vs σ H Q
abbrev BlkX (X : Cx) (scope : Scope) (P : Cx → Prop) : Prop := ∀ (s : Shared) (H : Hp) (cl : List (Str × Addr)) (C : Addr) (fp : List Addr) (xe : Value → Shared → Prop), P (blkX X s H scope cl C fp xe)
theorem lc_coreX {WW : WX} {pins : List (Addr × Obj)} {s : Shared} {σ : L2.St} {H : Hp} {Q : VK} {elt tg iter : Expr} {ifs : List Expr} {scope : Scope} {own : List (Str × Nat)} {pos pos' : Pos} {wi : TI} {g : TG} {tt : TT} {te : WX → TE} {Qf : Value → Shared → Prop}
    (hst : X.stack = X.env :: X.outer) (hfm : X.env.frame = some X.env.locals) (tk : L2.Takes X WW) (hc : X.calm = true) (hN : X.N.Nodup) (I : Inv X pins σ H s) (hi : PI X tg iter wi) (ok : BlkOk X.N X.env.scope scope own)
    (hg : BlkX X scope fun Y => PG Y tg g) (ht : BlkX X scope fun Y => PTs Y ifs tt)
    (he : BlkX X scope fun Y => ∀ W', L2.Takes Y W' → PE Y elt (te W')) (hs : ∀ x, foldedSetIterable iter X.env x = pure x)
    (h : tLcX wi g tt te (own.map (·.2)) WW σ H Q)
    (hRR : ∀ D C cl s' m H', Inv X pins σ H' s' → Q (.ref D) H' → s'.heap.Ns C m → FpOk X pins H' C → compEnds (model X.prog X.w) X.A X.xe none Qf (.ref D) (compEnvC scope cl C X.env) (.ok .next) s') :
    wpAny (model X.prog X.w) X.A (comprehension (.ListComp elt [⟨tg, iter, ifs, 0⟩] scope pos) scope X.env pos' (newList []) false (eval iter X.env) none) Qf X.xe s := by
  have hfree : ∀ y ∈ scope.names, y.2 = .free → ∃ c, X.env.cells.lookup y.1 = some c := fun y hy e => by
    rcases ok.free y hy e with k | k
    · exact I.ok.has _ (.inl k)
    · exact I.ok.has _ (.inr k)
  refine comprehension_at (use := none) rfl hs (closure_ok hfree) ok.kind (fun y hy e => by rw [ok.uniq y hy, e])
    (thn (hi.run pins s σ H _ I h) fun xv s1 hx => thn hx fun itv s2 h2 => ?_)
  obtain ⟨it, fp, tn, J, H2, e, I2, T, st2, f2, q⟩ := h2
  subst e
  refine wpAny_newObj_type (newEnv_comp ?_) (by show 0 ≤ sizeLine; decide)
  generalize hD : s2.heap.objs.size = D
  have hDn : H2 D = none := I2.hok.fresh (Nat.le_of_eq hD)
  obtain ⟨W, ⟨m0, w0⟩, turn⟩ := q D hDn
  generalize hs3 : ({ s2 with heap := s2.heap.push { cls := .type "list", data := .seq ([] : List Value).toArray } } : Shared) = s3
  have I3 : Inv X pins σ (upd H2 D (.lst [])) s3 := by
    rw [← hs3]
    refine I2.laid (t' := s2.toks) (fun b o e => Heap.get?_push_of_some _ e) (Nat.le_of_eq hD) ⟨Nat.zero_le _, [], 0, .nil, ?_⟩
    rw [← hD]
    exact Heap.get?_push_size _ rfl
  have h3 : s3.heap = s2.heap.push { cls := .type "list", data := .seq ([] : List Value).toArray } := by rw [← hs3]
  have sz : ∀ b ∈ fp, b < s2.heap.objs.size := fun b hb => by
    obtain ⟨o, e, _⟩ := T.obj _ _ st2 b hb
    exact Heap.lt_size e
  have f3 : ∀ b ∈ fp, FpOk X pins (upd H2 D (.lst [])) b ∧ b < s3.heap.objs.size := fun b hb => by
    have hlt := sz b hb
    refine ⟨⟨?_, (f2 b hb).2⟩, by rw [h3, Heap.size_push]; exact Nat.lt_succ_of_lt hlt⟩
    rw [upd_ne (by rw [← hD]; exact Nat.ne_of_lt hlt)]
    exact (f2 b hb).1
  have st3 : tn 0 s3.heap := T.keep _ _ _ st2 fun b _ o e => by rw [h3]; exact Heap.get?_push_of_some _ e
  have I4 := (block_start I3 ok hN f3).wish (notedBy (model X.prog X.w) X.A (compEnvC scope (cellsFrom (s3.heap.objs.size + 1) scope.names (cloFrom X.env.cells scope.names [])) s3.heap.objs.size X.env) fun e s' => compEnds (model X.prog X.w) X.A X.xe none Qf (.ref D) (compEnvC scope (cellsFrom (s3.heap.objs.size + 1) scope.names (cloFrom X.env.cells scope.names [])) s3.heap.objs.size X.env) (.error e) s')
  have tkB := takes_blk (scope := scope) (cl := cellsFrom (s3.heap.objs.size + 1) scope.names (cloFrom X.env.cells scope.names [])) (C := s3.heap.objs.size) (fp := fp) (xe := fun e s' => compEnds (model X.prog X.w) X.A X.xe none Qf (.ref D) (compEnvC scope (cellsFrom (s3.heap.objs.size + 1) scope.names (cloFrom X.env.cells scope.names [])) s3.heap.objs.size X.env) (.error e) s') hst hfm tk I3 (Nat.le_refl _) (fun b hb => (f3 b hb).1) fun u s' z => z
  have pg := hg s3 (upd H2 D (.lst [])) (cellsFrom (s3.heap.objs.size + 1) scope.names (cloFrom X.env.cells scope.names [])) s3.heap.objs.size fp (notedBy (model X.prog X.w) X.A (compEnvC scope (cellsFrom (s3.heap.objs.size + 1) scope.names (cloFrom X.env.cells scope.names [])) s3.heap.objs.size X.env) fun e s' => compEnds (model X.prog X.w) X.A X.xe none Qf (.ref D) (compEnvC scope (cellsFrom (s3.heap.objs.size + 1) scope.names (cloFrom X.env.cells scope.names [])) s3.heap.objs.size X.env) (.error e) s')
  have pt := ht s3 (upd H2 D (.lst [])) (cellsFrom (s3.heap.objs.size + 1) scope.names (cloFrom X.env.cells scope.names [])) s3.heap.objs.size fp (notedBy (model X.prog X.w) X.A (compEnvC scope (cellsFrom (s3.heap.objs.size + 1) scope.names (cloFrom X.env.cells scope.names [])) s3.heap.objs.size X.env) fun e s' => compEnds (model X.prog X.w) X.A X.xe none Qf (.ref D) (compEnvC scope (cellsFrom (s3.heap.objs.size + 1) scope.names (cloFrom X.env.cells scope.names [])) s3.heap.objs.size X.env) (.error e) s')
  have pe := he s3 (upd H2 D (.lst [])) (cellsFrom (s3.heap.objs.size + 1) scope.names (cloFrom X.env.cells scope.names [])) s3.heap.objs.size fp _ _ tkB
  have hRR := fun s' m H' => hRR D s3.heap.objs.size (cellsFrom (s3.heap.objs.size + 1) scope.names (cloFrom X.env.cells scope.names [])) s' m H'
  show codeAny _ _ (.compStart (.ListComp elt [⟨tg, iter, ifs, 0⟩] scope pos) 0 (.ref it) (.ref D) (compEnvC scope (cellsFrom (s3.heap.objs.size + 1) scope.names (cloFrom X.env.cells scope.names [])) s3.heap.objs.size X.env)) (compEnds (model X.prog X.w) X.A X.xe none Qf (.ref D) (compEnvC scope (cellsFrom (s3.heap.objs.size + 1) scope.names (cloFrom X.env.cells scope.names [])) s3.heap.objs.size X.env)) { s3 with heap := pushCells (s3.heap.push { cls := .type "dict", data := .dict #[] }) scope.names }
  have nfp : ∀ b ∈ fp, (upd H2 D (.lst [])) b = none := fun b hb => (f3 b hb).1.1
  clear tkB
  generalize hcl : cellsFrom (s3.heap.objs.size + 1) scope.names (cloFrom X.env.cells scope.names []) = cl at I4 pg pt pe hRR ⊢
  generalize hHx : (notedBy (model X.prog X.w) X.A (compEnvC scope cl s3.heap.objs.size X.env) fun e s' => compEnds (model X.prog X.w) X.A X.xe none Qf (.ref D) (compEnvC scope cl s3.heap.objs.size X.env) (.error e) s') = xe at I4 pg pt pe
  generalize hC : s3.heap.objs.size = C at I4 pg pt pe hRR hHx ⊢
  have hCs : s3.heap.objs.size ≤ C := by rw [hC]; exact Nat.le_refl _
  generalize hH3 : upd H2 D (.lst []) = H3 at I3 I4 pg pt pe w0 nfp f3
  generalize hs4 : ({ s3 with heap := pushCells (s3.heap.push { cls := .type "dict", data := .dict #[] }) scope.names } : Shared) = s4 at I4 ⊢
  have st4 : tn 0 s4.heap := T.keep _ _ _ st3 fun b _ o e => by rw [← hs4]; exact pushCells_keeps _ _ _ _ (Heap.get?_push_of_some _ e)
  have I4 : Inv (blkX X s3 H3 scope cl C fp xe) [] (L2.wipe σ (own.map (·.2))) H3 s4 := I4
  have stat : ∀ {σ' : L2.St} {H' : Hp} {s' : Shared}, Inv (blkX X s3 H3 scope cl C fp xe) [] σ' H' s' → (∀ b ∈ fp, H' b = none) → ∀ b ∈ fp, FpOk (blkX X s3 H3 scope cl C fp xe) [] H' b := fun {σ' H' s'} I' hn b hb =>
    ⟨hn b hb, (I'.ok.exf b hb).1, I'.ok.exfs b hb, .inl hb, fun x c e => (I'.ok.exf b hb).2 x c e, fun p hp => absurd (show p ∈ ([] : List (Addr × Obj)) ++ [] from hp) (by simp)⟩
  have loop : codeAny (model X.prog X.w) X.A (.compLoop (.ListComp elt [⟨tg, iter, ifs, 0⟩] scope pos) 0 (.ref it) (.ref D) (compEnvC scope cl C X.env)) (compEnds (model X.prog X.w) X.A X.xe none Qf (.ref D) (compEnvC scope cl C X.env)) s4 := by
    refine compLoop_any (fun n s' => ∃ i H', Inv (blkX X s3 H3 scope cl C fp xe) [] (L2.wipe σ (own.map (·.2))) H' s' ∧ tn i s'.heap ∧ (∀ b ∈ fp, H' b = none) ∧ W i n H') ?_ m0 ⟨0, H3, I4, st4, nfp, w0⟩
    rintro n s5 ⟨i, H5, I5, st5, n5, w5⟩
    rw [hHx]
    rcases turn i n H5 w5 with ⟨stop, qq⟩ | ⟨go, Nx, hNx, step⟩
    · have td := T.done (blkX X s3 H3 scope cl C fp xe) rfl rfl rfl hc i [] s5 _ H5 (fun _ _ => False) I5 (stat I5 n5) st5 stop
      refine thnF td fun r s6 ⟨hr, I6⟩ => ?_
      subst hr
      have I7 : Inv X pins σ H5 s6 := I3.call' (ch := fp) I6.os I6.base I6.hok I6.bare fun b hb => ⟨(f3 b hb).1.2.2.2.1, (f3 b hb).1.2.1, (f3 b hb).1.2.2.2.2.1, (f3 b hb).1.2.2.2.2.2⟩
      have nC : H5 C = none := I6.free
      obtain ⟨m, hn, _⟩ := I6.loc
      have hn : s6.heap.Ns C m := hn
      exact hRR s6 m H5 I7 qq hn (I3.fpOk hCs nC)
    · have ti := T.item (blkX X s3 H3 scope cl C fp xe) rfl rfl rfl hc i [] s5 _ H5 (fun _ _ => False) I5 (stat I5 n5) st5 go
      refine thnF ti fun r s6 ⟨u, hr, h6⟩ => ?_
      subst hr
      refine thnF h6 fun _ s7 ⟨x, H7, I7, r7, y7, st7, n7⟩ => ?_
      have I7' := I7.pinned (stat I7 n7) (T.obj _ _ st7)
      refine thn (pg.run _ s7 _ H7 x u _ I7' r7 (step x H7 y7)) fun _ s8 ⟨σ8, H8, I8, hw8, q8⟩ => ?_
      refine thn (pt.run _ s8 σ8 H8 _ I8 q8) fun b s9 ⟨H9, I9, q9⟩ => ?_
      have fin : ∀ {s' : Shared} {H' : Hp}, Inv (blkX X s3 H3 scope cl C fp xe) ([] ++ pinsAt fp s7.heap) σ8 H' s' → Nx H' → ∃ m, m < n ∧ ∃ i H', Inv (blkX X s3 H3 scope cl C fp xe) [] (L2.wipe σ (own.map (·.2))) H' s' ∧ tn i s'.heap ∧ (∀ b ∈ fp, H' b = none) ∧ W i m H' := fun {s' H'} I' nx => by
        obtain ⟨m', hm, w'⟩ := hNx H' nx
        have pin' : ∀ b ∈ fp, ∀ o, s7.heap.get? b = some o → s'.heap.get? b = some o ∧ H' b = none := fun b hb o e =>
          let z := I'.pin (b, o) (List.mem_append_right _ (List.mem_append_right _ (mem_pinsAt hb e)))
          ⟨z.1, z.2.1⟩
        have hl : (L2.wipe σ (own.map (·.2))).length = σ8.length := by rw [← hw8, wipe_length]
        refine ⟨m', hm, i + 1, H', (I'.unpinned (pins := [])).weak hl (fun j v e => ?_), T.keep _ _ _ st7 fun b hb o e => (pin' b hb o e).1, fun b hb => ?_, w'⟩
        · rw [← hw8] at e
          exact (wipe_some e).1
        · obtain ⟨o, e, _⟩ := T.obj _ _ st7 b hb
          exact (pin' b hb o e).2
      cases b with
      | false =>
        simp only [Bool.false_eq_true, if_false] at q9 ⊢
        exact fin I9 q9
      | true =>
        simp only [if_true] at q9 ⊢
        refine thn (pe.run _ s9 σ8 H9 _ I9 q9) fun z s10 ⟨yv, H10, I10, r10, acc, hD10, hz10, nx⟩ => ?_
        exact app_ok (X := blkX X s3 H3 scope cl C fp xe) I10 hD10 hz10 r10 fun s11 I11 => fin I11 nx
  exact codeAny_compStart_list loop (T.self X.A 0 _ _ _ st4 loop)
theorem pe_lcX {WW : WX} {elt tg iter : Expr} {ifs : List Expr} {scope : Scope} {own : List (Str × Nat)} {pos : Pos} {wi : TI} {g : TG} {tt : TT} {te : WX → TE}
    (hst : X.stack = X.env :: X.outer) (hfm : X.env.frame = some X.env.locals) (tk : L2.Takes X WW) (hc : X.calm = true) (hN : X.N.Nodup) (hi : PI X tg iter wi) (ok : BlkOk X.N X.env.scope scope own)
    (hg : BlkX X scope fun Y => PG Y tg g) (ht : BlkX X scope fun Y => PTs Y ifs tt)
    (he : BlkX X scope fun Y => ∀ W', L2.Takes Y W' → PE Y elt (te W')) (hs : ∀ x, foldedSetIterable iter X.env x = pure x := by intro _; rfl) :
    PE X (.ListComp elt [⟨tg, iter, ifs, 0⟩] scope pos) (tLcX wi g tt te (own.map (·.2)) WW) := by
  refine ⟨fun pins s σ H Q I h => ?_⟩
  rw [eval_ListComp]
  refine lc_coreX hst hfm tk hc hN I hi ok hg ht he hs h fun D C cl s' m H' I' q hn f => ⟨m, hn, fun h'' sb => ?_⟩
  obtain ⟨f0, f1, f2, f3, f4, f5⟩ := f
  exact ⟨.ref D, H', I'.turned (t' := s'.toks) (fun b o hb e => (sb.2 b hb).trans e) f0 f1 f3 f4 f5, rfl, q⟩
end
/-! ### its reading -/
def compGX (st : Store → Prop) (b : Tg) (c e : W) (E : Str → Store → Prop) : List D → List D → DEnv → Store → PQ → Prop
  | [], acc, _, S, Q => st S ∧ Q (.ref S.length) (S ++ [.lst acc])
  | x :: xs, acc, ρ, S, Q => st S ∧ b x ρ fun ρ1 => c ρ1 S (fun d S1 => ∃ k, d = .bl k ∧
      if k = true then e ρ1 S1 (fun y S2 => compGX st b c e E xs (acc ++ [y]) ρ S2 Q) (fun cl _ S2 => E cl S2) else compGX st b c e E xs acc ρ S1 Q) NoE
def wCompX (vs : List Nat) (b : Tg) (w c e : W) : W := fun ρ S Q E => w ρ S (fun d S1 => ∃ n ds, d = .ref n ∧ atL n ds S1 ∧ compGX (atL n ds) b c e (fun cl S2 => E cl ρ S2) ds [] (wipeD ρ vs) S1 Q) E
@[simp] theorem e_compX {vs : List Nat} {b : Tg} {w c e : W} {ρ : DEnv} {S : Store} {Q : PQ} {E : PX} : wCompX vs b w c e ρ S Q E = w ρ S (fun d S1 => ∃ n ds, d = .ref n ∧ atL n ds S1 ∧ compGX (atL n ds) b c e (fun cl S2 => E cl ρ S2) ds [] (wipeD ρ vs) S1 Q) E := rfl
section
variable {X : Cx} {WW : WX} {a e elt tg iter : Expr} {ifs : List Expr} {scope : Scope} {own : List (Str × Nat)} {pos : Pos} {w c ee ce : W} {vs : List Nat}
def PNX (K : PySem.W.Frag) (φ : List Addr) (H1 : Hp) (DD : Addr) (mg : Str → Option Value) (ds : List D) (stb : Store → Prop) (b : Tg) (c ee : W) (E : Str → Store → Prop) (ρ : DEnv) (Q' : PQ) (i : Nat) (H' : Hp) : Prop :=
  ∃ φ' S' acc us, Ext φ H1 φ' H' ∧ RS K mg φ' S' H' ∧ DD ∉ φ' ∧ H' DD = some (.lst us) ∧ RDs K φ' H' acc us ∧ acc.length + (ds.length - i) ≤ sizeLine ∧ compGX stb b c ee E (ds.drop i) acc ρ S' Q'
theorem pnx_st {K : PySem.W.Frag} {φ : List Addr} {H1 : Hp} {DD : Addr} {mg : Str → Option Value} {ds : List D} {stb : Store → Prop} {b : Tg} {E : Str → Store → Prop} {ρ : DEnv} {Q' : PQ} {i : Nat} {H' : Hp} (h : PNX K φ H1 DD mg ds stb b c ee E ρ Q' i H') :
    ∃ φ' S', Ext φ H1 φ' H' ∧ RS K mg φ' S' H' ∧ stb S' := by
  obtain ⟨φ', S', acc, us, x, rs, nd, hD, r, hl, h⟩ := h
  refine ⟨φ', S', x, rs, ?_⟩
  cases hd : ds.drop i with
  | nil => rw [hd] at h; exact h.1
  | cons y ys => rw [hd] at h; exact h.1
theorem pnx_turn {φ : List Addr} {H1 : Hp} {DD : Addr} {ds : List D} {stb : Store → Prop} {b : Tg} {g : TG} {E : Str → Store → Prop} {ρ : DEnv} {Q' : PQ} {i : Nat} {H' : Hp} {σ : L2.St} {d : D} {y : V} {σo : L2.St} (hn : H1 DD = none)
    (ho : ∀ φ ρ σ0 H d v (k : DEnv → Prop) (Q : L2.St → Hp → Prop), RE X.K φ H ρ (L2.wipe σ0 vs) → RD X.K φ H d v → b d ρ k → (∀ ρ' σ', k ρ' → RE X.K φ H ρ' σ' → L2.wipe σ' vs = L2.wipe σ0 vs → Q σ' H) → g v (L2.wipe σ0 vs) H Q)
    (hx : ∀ c S', E c S' → ∀ u φ' H', Ext φ H1 φ' H' → RS X.K X.mg φ' S' H' → X.mg c = some u → WW u none σo H')
    (h : PNX X.K φ H1 DD X.mg ds stb b c ee E ρ Q' i H') (hi : ds[i]? = some d) (re : RE X.K φ H1 ρ (L2.wipe σ vs)) (rd : ∀ φ' S', Ext φ H1 φ' H' → RS X.K X.mg φ' S' H' → stb S' → RD X.K φ' H' d y) :
    g y (L2.wipe σ vs) H' fun σ2 H2 => L2.wipe σ2 vs = L2.wipe σ vs ∧ ttm X.K X.mg NoW c σ2 H2 fun k H3 =>
      if k = true then tm X.K X.mg (WB WW σo) ee σ2 H3 fun z H4 => ∃ acc, H4 DD = some (.lst acc) ∧ acc.length < sizeLine ∧ PNX X.K φ H1 DD X.mg ds stb b c ee E ρ Q' (i + 1) (upd H4 DD (.lst (acc ++ [z]))) else PNX X.K φ H1 DD X.mg ds stb b c ee E ρ Q' (i + 1) H3 := by
  obtain ⟨φ', S', acc, us, x, rs, nd, hD, r, hl, h⟩ := h
  rw [drop_cons hi] at h
  obtain ⟨hs, h⟩ := h
  have hlt : i < ds.length := (List.getElem?_eq_some_iff.mp hi).1
  refine ho φ' ρ σ H' d y _ _ (re.mono x) (rd φ' S' x rs hs) h fun ρ1 σ1 h1 re1 hw => ⟨hw, ?_⟩
  refine ⟨φ', ρ1, S', rs, re1, _, NoE, h1, fun dk S1 h2 v φ2 H2 e2 rs2 rd2 => ?_, fun _ _ _ z => z.elim⟩
  obtain ⟨k, rfl, h2⟩ := h2
  refine ⟨k, rd2.bl_inv, ?_⟩
  have nd2 : DD ∉ φ2 := fun hm => by
    rcases e2.new DD hm with q | q
    · exact nd q
    · rw [hD] at q; cases q
  have hD2 : H2 DD = some (.lst us) := e2.keep _ _ hD nd
  cases k with
  | true =>
    refine ⟨φ2, ρ1, S1, rs2, re1.mono e2, _, _, h2, fun dy S3 h3 v3 φ3 H3 e3 rs3 rd3 => ?_, fun cl ρ' S3 z u φ3 H3 σ3 e3 rs3 re3 m => hx cl S3 z u φ3 H3 ((x.trans e2).trans e3) rs3 m⟩
    have nd3 : DD ∉ φ3 := fun hm => by
      rcases e3.new DD hm with q | q
      · exact nd2 q
      · rw [hD2] at q; cases q
    have hD3 : H3 DD = some (.lst us) := e3.keep _ _ hD2 nd2
    have hu : us.length = acc.length := r.length.symm
    have lg : Le φ3 H3 φ3 (upd H3 DD (.lst (us ++ [v3]))) := Le.grow hD3
    refine ⟨us, hD3, by rw [hu]; omega, φ3, S3, acc ++ [dy], us ++ [v3], ((x.trans e2).trans e3).grow hn (.inr ⟨us, hD3⟩), rs3.grow hD3 nd3, nd3, upd_same, ?_, by simp; omega, h3⟩
    exact (((r.mono e2).mono e3).append (RDs.cons rd3 RDs.nil)).le lg
  | false => exact ⟨φ2, S1, acc, us, x.trans e2, rs2, nd2, hD2, r.mono e2, by omega, h2⟩
theorem pnx_start {φ : List Addr} {H1 : Hp} {DD : Addr} {S : Store} {ds : List D} {stb : Store → Prop} {b : Tg} {E : Str → Store → Prop} {ρ : DEnv} {Q' : PQ} (rs : RS X.K X.mg φ S H1) (hn : H1 DD = none) (hz : ds.length ≤ sizeLine) (h : compGX stb b c ee E ds [] ρ S Q') :
    PNX X.K φ H1 DD X.mg ds stb b c ee E ρ Q' 0 (upd H1 DD (.lst [])) :=
  ⟨φ, S, [], [], Ext.laid rs hn, rs.laid hn, rs.out hn, upd_same, RDs.nil, by simpa using hz, by simpa using h⟩
theorem pnx_end {φ : List Addr} {H1 : Hp} {DD : Addr} {ds : List D} {stb : Store → Prop} {b : Tg} {E : Str → Store → Prop} {ρ : DEnv} {Q' : PQ} {H' : Hp} {i : Nat} {Q : VK} (hn : H1 DD = none) (h : PNX X.K φ H1 DD X.mg ds stb b c ee E ρ Q' i H') (hi : ds.length ≤ i)
    (hq : ∀ d S', Q' d S' → ∀ v φ' H', Ext φ H1 φ' H' → RS X.K X.mg φ' S' H' → RD X.K φ' H' d v → Q v H') : Q (.ref DD) H' := by
  obtain ⟨φ', S', acc, us, x, rs, nd, hD, r, hl, h⟩ := h
  rw [List.drop_of_length_le hi] at h
  exact hq _ _ h.2 _ _ _ (x.adopt hn) (rs.adopt nd ⟨us, hD, r, by omega⟩) (alloc_ref rs DD)
theorem lc_goX {g : TG} {b : Tg} (ho : ∀ φ ρ σ0 H d v (k : DEnv → Prop) (Q : L2.St → Hp → Prop), RE X.K φ H ρ (L2.wipe σ0 vs) → RD X.K φ H d v → b d ρ k → (∀ ρ' σ', k ρ' → RE X.K φ H ρ' σ' → L2.wipe σ' vs = L2.wipe σ0 vs → Q σ' H) → g v (L2.wipe σ0 vs) H Q)
    (σ : L2.St) (H : Hp) (Q : VK) (q : tm X.K X.mg WW (wCompX vs b w c ee) σ H Q) : tLcX (iList X.K (tm X.K X.mg WW w)) g (ttm X.K X.mg NoW c) (fun W' => tm X.K X.mg W' ee) vs WW σ H Q := by
  obtain ⟨φ, ρ, S, rs, re, Q', E', hw, hn, hx⟩ := q
  refine ⟨φ, ρ, S, rs, re, _, E', hw, fun d S1 ⟨n, ds, e1, hat, h1⟩ v φ1 H1 x1 rs1 rd1 => ?_, hx⟩
  subst e1
  obtain ⟨a, us, rfl, ha, hH, r, z⟩ := rs1.lst hat rd1
  refine ⟨a, rfl, ⟨us, SqL.of hH⟩, fun DD hD => ?_⟩
  refine ⟨fun i m H' => m = ds.length - i ∧ PNX X.K φ1 H1 DD X.mg ds (atL n ds) b c ee (fun cl S2 => E' cl ρ S2) (wipeD ρ vs) Q' i H', ⟨_, rfl, pnx_start rs1 hD z h1⟩, ?_⟩
  rintro i m H' ⟨rfl, p⟩
  obtain ⟨φ', S', x', rs', hs'⟩ := pnx_st p
  obtain ⟨a2, vs2, e2, ha2, hH2, r2, _⟩ := rs'.lst hs' (rd1.mono x')
  cases e2
  by_cases hi : i < ds.length
  · have hd : ds[i]? = some ds[i] := List.getElem?_eq_getElem hi
    obtain ⟨y, hy, ry⟩ := r2.get hd
    refine .inr ⟨⟨vs2, y, SqL.of hH2, hy⟩, PNX X.K φ1 H1 DD X.mg ds (atL n ds) b c ee (fun cl S2 => E' cl ρ S2) (wipeD ρ vs) Q' (i + 1), fun H2 h2 => ⟨ds.length - (i + 1), by omega, rfl, h2⟩, fun yy H2 hx2 => ?_⟩
    obtain ⟨rfl, fx⟩ := hx2
    have ex : yy = y := Option.some.inj ((fx _ (SqL.of hH2)).symm.trans hy)
    subst ex
    refine pnx_turn (σ := σ) (σo := σ) hD ho (fun cl S' z u φ4 H4 x4 rs4 m => hx cl ρ S' z u φ4 H4 σ (x1.trans x4) rs4 ((re.mono x1).mono x4) m) p hd ((re.mono x1).wipe vs) (fun φ4 S4 x4 rs4 hs4 => ?_)
    obtain ⟨a4, vs4, e4, ha4, hH4, r4, _⟩ := rs4.lst hs4 (rd1.mono x4)
    cases e4
    rw [hH2] at hH4; cases hH4
    obtain ⟨y4, hy4, ry4⟩ := r4.get hd
    rw [hy] at hy4; cases hy4
    exact ry4
  · refine .inl ⟨⟨vs2, SqL.of hH2, by rw [← r2.length]; omega⟩, ?_⟩
    exact pnx_end hD p (by omega) fun d S2 a v φ2 H2 x => hn d S2 a v φ2 H2 (x1.trans x)
theorem se_lcX {b : Tg} {g : TG} (hst : X.stack = X.env :: X.outer) (hfm : X.env.frame = some X.env.locals) (tk : L2.Takes X WW) (hc : X.calm = true) (hN : X.N.Nodup) (hi : PE X iter (tm X.K X.mg WW w)) (ok : BlkOk X.N X.env.scope scope own) (hv : own.map (·.2) = vs) (hg : BlkX X scope fun Y => PG Y tg g)
    (ho : ∀ φ ρ σ0 H d v (k : DEnv → Prop) (Q : L2.St → Hp → Prop), RE X.K φ H ρ (L2.wipe σ0 vs) → RD X.K φ H d v → b d ρ k → (∀ ρ' σ', k ρ' → RE X.K φ H ρ' σ' → L2.wipe σ' vs = L2.wipe σ0 vs → Q σ' H) → g v (L2.wipe σ0 vs) H Q)
    (ht : BlkX X scope fun Y => PTs Y ifs (ttm X.K X.mg NoW ce)) (he : BlkX X scope fun Y => ∀ W', L2.Takes Y W' → PE Y elt (tm X.K X.mg W' ee)) (hs : ∀ x, foldedSetIterable iter X.env x = pure x := by intro _; rfl) :
    PE X (.ListComp elt [⟨tg, iter, ifs, 0⟩] scope pos) (tm X.K X.mg WW (wCompX vs b w ce ee)) := by
  subst hv
  exact PE.conv (pe_lcX hst hfm tk hc hN (pi_list hi) ok hg ht he hs) fun σ H Q q => lc_goX ho σ H Q q
end
/-! ### what a comprehension comes to -/
theorem comp_listXY {n : Nat} {b : Tg} {e : W} {E : Str → Store → Prop} {ρ : DEnv} {Q : PQ} (I : Nat → List D → Store → Prop) {ds : List D} {S : Store} (h0 : I 0 [] S)
    (hat : ∀ i acc S, I i acc S → atL n ds S)
    (step : ∀ i acc S d (Q' : PQ), ds[i]? = some d → I i acc S → (∀ y S2, I (i + 1) (acc ++ [y]) S2 → Q' y S2) → b d ρ fun ρ1 => e ρ1 S Q' (fun cl _ S2 => E cl S2))
    (fin : ∀ acc S, I ds.length acc S → Q (.ref S.length) (S ++ [.lst acc])) (hb : ∀ {d ρ} {P P' : DEnv → Prop}, (∀ ρ, P ρ → P' ρ) → b d ρ P → b d ρ P') :
    compGX (atL n ds) b wYes e E ds [] ρ S Q := by
  have go : ∀ (k : Nat) i acc S, k + i = ds.length → I i acc S → compGX (atL n ds) b wYes e E (ds.drop i) acc ρ S Q := by
    intro k
    induction k with
    | zero =>
      intro i acc S hk hI
      rw [List.drop_of_length_le (by omega)]
      exact ⟨hat _ _ _ hI, fin acc S (by rw [show ds.length = i from by omega]; exact hI)⟩
    | succ k ih =>
      intro i acc S hk hI
      have hi : i < ds.length := by omega
      have hd : ds[i]? = some ds[i] := List.getElem?_eq_getElem hi
      rw [drop_cons hd]
      exact ⟨hat _ _ _ hI, hb (fun ρ1 h1 => ⟨true, rfl, by rw [if_pos rfl]; exact h1⟩) (step i acc S _ _ hd hI fun y S2 h2 => ih (i + 1) _ S2 (by omega) h2)⟩
  simpa using go ds.length 0 [] S (by omega) h0
end GS

set_option exponentiation.threshold 600
namespace GS
open PySem PySem.Spec PyProof.Rows L2 TL
def eOp {α : Type} [DecidableEq α] (e : En α) (h1 : ∀ a, PyData.eqv .none (e.py a) = false) (h2 : ∀ a, PyData.eqv (e.py a) .none = false) : En (Option α) where
  enc := fun a => match a with
    | none => .non
    | some a => e.enc a
  py := fun a => match a with
    | none => .none
    | some a => e.py a
  dpy := fun S a => match a with
    | none => .non
    | some a => e.dpy S a
  lay := fun a => match a with
    | none => rfl
    | some a => e.lay a
  dep := fun a => match a with
    | none => by simp [PyData.depth]
    | some a => e.dep a
  eqv := fun a b => match a, b with
    | none, none => by simp [PyData.eqv]
    | none, some b => by simp [h1]
    | some a, none => by simp [h2]
    | some a, some b => by simp [e.eqv]
  cl := fun n a => match a with
    | none => by simp [Cl]
    | some a => e.cl n a
def eON : En (Option Int) := eOp eInt (fun _ => by simp [eInt, PyData.eqv]) (fun _ => by simp [eInt, PyData.eqv])
def eOP : En (Option Pl) := eOp ePl (fun a => by cases a <;> simp [ePl, PyData.eqv]) (fun a => by cases a <;> simp [ePl, PyData.eqv])
def eOT : En (Option Th) := eOp eTh (fun a => by simp [eTh, PyData.eqv]) (fun a => by simp [eTh, PyData.eqv])
theorem in_none {α : Type} [DecidableEq α] {e : En α} {h1 : ∀ a, PyData.eqv .none (e.py a) = false} {h2 : ∀ a, PyData.eqv (e.py a) .none = false} {S : Store} {n : Nat} {xs : List (Option α)} {ρ : DEnv} {Q : PQ} {E : PX}
    (hn : S[n]? = some (.lst (xs.map (eOp e h1 h2).enc))) (hq : ∀ k : Bool, (k = true ↔ none ∈ xs) → Q (.bl k) S) : pInD .non (.ref n) ρ S Q E := by
  refine ⟨.none, xs.map (eOp e h1 h2).py, .non, .lst hn (dpys_map _ S xs), by decide, shaped_list _ xs, ?_⟩
  have e2 : ((xs.map (eOp e h1 h2).py).any fun z => PyData.eqv z .none) = decide (none ∈ xs) := by
    rw [List.any_map]
    clear hn hq
    induction xs with
    | nil => rfl
    | cons x xs ih =>
      have hx : PyData.eqv ((eOp e h1 h2).py x) PyData.none = decide (x = none) := (eOp e h1 h2).eqv x none
      rw [List.any_cons, ih, Function.comp, hx]
      by_cases h : x = none
      · subst h; simp
      · have h3 : ¬ none = x := fun e => h e.symm
        simp [h, h3]
  rw [e2]
  exact hq _ (by simp)
def numD : Option Int → D
  | some n => .int n
  | none => .non
def sp_law_number : SPf
  | [.str x], S, Q, _ => x.length ≤ 1000000 ∧ Q (numD (numOf (tl x))) S
  | _, _, _, _ => False
def sp_law_pair : SPf
  | [.str x], S, Q, _ => x.length ≤ 1000000 ∧ Q (eOT.enc (pairOf (tl x))) S
  | _, _, _, _ => False
def sp_read_disk : SPf
  | [.str x], S, Q, E => x.length ≤ 1000000 ∧ (∀ d, diskOf (tl x) = some d → Q (.ref (S.length + 3)) (S ++ dkC S.length d)) ∧ (diskOf (tl x) = none → E "NoText" S)
  | [d], S, _, E => (∃ a, tyName S d = some a ∧ a ≠ "str") ∧ E "NoText" S
  | _, _, _, _ => False
def sp_law_due : SPf
  | [.str x], S, Q, _ => x.length ≤ 1000000 ∧ (∀ d, diskOf (tl x) = some d → Q (.ref (S.length + 3)) (S ++ dkC S.length d)) ∧ (diskOf (tl x) = none → Q .non S)
  | _, _, _, _ => False
def sp_law_text : SPf
  | [.int c], S, Q, _ => ∀ x : Str, x.length ≤ 1000 → Q (.str x) S
  | _, _, _, _ => False
def sp_law_spoilt : SPf
  | [.str x, .int _], S, Q, _ => x.length ≤ 1000 ∧ ∀ y : Str, y.length ≤ x.length + 1 → Q (.str y) S
  | _, _, _, _ => False
def sp_law_right : SPf
  | [.str x, .ref k], S, Q, _ => x.length ≤ 1000000 ∧ ∃ d, DkAt S k d ∧ diskOf (tl x) = some d ∧ Q (.bl true) S
  | [.str x, .non], S, Q, _ => x.length ≤ 1000000 ∧ diskOf (tl x) = none ∧ Q (.bl true) S
  | [d, .non], S, Q, _ => (∃ a, (∀ G, tyName (S ++ G) d = some a) ∧ a ≠ "str") ∧ Q (.bl true) S
  | _, _, _, _ => False
theorem len_law_number : ∀ ds S Q E, sp_law_number ds S Q E → ds.length = 1 := by
  intro ds S Q E h; unfold sp_law_number at h; split at h <;> first | rfl | exact h.elim
theorem len_law_pair : ∀ ds S Q E, sp_law_pair ds S Q E → ds.length = 1 := by
  intro ds S Q E h; unfold sp_law_pair at h; split at h <;> first | rfl | exact h.elim
theorem len_read_disk : ∀ ds S Q E, sp_read_disk ds S Q E → ds.length = 1 := by
  intro ds S Q E h; unfold sp_read_disk at h; split at h <;> first | rfl | exact h.elim
theorem len_law_due : ∀ ds S Q E, sp_law_due ds S Q E → ds.length = 1 := by
  intro ds S Q E h; unfold sp_law_due at h; split at h <;> first | rfl | exact h.elim
theorem len_law_text : ∀ ds S Q E, sp_law_text ds S Q E → ds.length = 1 := by
  intro ds S Q E h; unfold sp_law_text at h; split at h <;> first | rfl | exact h.elim
theorem len_law_spoilt : ∀ ds S Q E, sp_law_spoilt ds S Q E → ds.length = 2 := by
  intro ds S Q E h; unfold sp_law_spoilt at h; split at h <;> first | rfl | exact h.elim
theorem len_law_right : ∀ ds S Q E, sp_law_right ds S Q E → ds.length = 2 := by
  intro ds S Q E h; unfold sp_law_right at h; split at h <;> first | rfl | exact h.elim
abbrev n_law_number : List Str := ["text", "figures", "number", "sign"]
def w_law_number_r1 : WS :=
  wsSet 2 (wOp pAdd (wOp pMul (wVar 2) (ret (.int 10))) (wM "str" mFind (ret (.str "0123456789")) [wVar 3]))
def w_law_number_r2 : WS :=
  wsSeq (wsIf (wAnd (wOp pEq (wOp pIx (wVar 1) (ret (.int 0))) (ret (.str "0"))) (wOp pNe (wVar 0) (ret (.str "0")))) (wsRet (ret .non)) (wsNil)) (wsRet (wOp pIx (wLst [wVar 2, wOp1 pNeg (wVar 2)]) (wB bInt [wOp pNe (wVar 1) (wVar 0)])))
def w_law_number_r3 : WS :=
  wsSeq (wsForS (tN 3) (wVar 1) (wsSeq (wsIf (wOp pLt (wM "str" mFind (ret (.str "0123456789")) [wVar 3]) (ret (.int 0))) (wsRet (ret .non)) (wsNil)) (w_law_number_r1))) (w_law_number_r2)
def w_law_number_r4 : WS :=
  wsSeq (wsSet 2 (ret (.int 0))) (w_law_number_r3)
def w_law_number_r5 : WS :=
  wsSeq (wsIf (wOr (wOp pLt (wB bLen [wVar 1]) (ret (.int 1))) (wOp pGt (wB bLen [wVar 1]) (ret (.int 60)))) (wsRet (ret .non)) (wsNil)) (w_law_number_r4)
def w_law_number_r6 : WS :=
  wsSeq (wsIf (wOp pEq (wSl (wVar 0) none (some (ret (.int 1)))) (ret (.str "-"))) (wsSet 1 (wSl (wVar 0) (some (ret (.int 1))) none)) (wsNil)) (w_law_number_r5)
def w_law_number : WS :=
  wsSeq (wsSet 1 (wVar 0)) (w_law_number_r6)

abbrev n_law_pair : List Str := ["word", "numbers", "one"]
def w_law_pair_r1 : WS :=
  wsSeq (wsIf (wOr (wOp pNe (wB bLen [wVar 1]) (ret (.int 2))) (wOp pInD (ret .non) (wVar 1))) (wsRet (ret .non)) (wsNil)) (wsRet (wTup [wOp pIx (wVar 1) (ret (.int 0)), wOp pIx (wVar 1) (ret (.int 1))]))
def w_law_pair : WS :=
  wsSeq (wsSet 1 (wComp [2] (tN 2) (wM "str" mSplit (wVar 0) [ret (.str ",")]) (wYes) (wCall sp_law_number [wVar 2] []))) (w_law_pair_r1)

abbrev n_read_disk : List Str := ["text", "parts", "areas", "part", "word"]
def w_read_disk_r1 : WS :=
  wsSeq (wsFor (tN 3) (wSl (wVar 1) none (some (ret (.int 2)))) (wsExpr (wM "list" mAppend (wVar 2) [wCompX [4] (tN 4) (wM "str" mSplit (wVar 3) [ret (.str " ")]) (wYes) (wCall sp_read_place [wVar 4] [])]))) (wsRet (wLst [wOp pIx (wVar 2) (ret (.int 0)), wOp pIx (wVar 2) (ret (.int 1)), wLst [wCall sp_read_pair [wOp pIx (wVar 1) (ret (.int 2))] []]]))
def w_read_disk_r2 : WS :=
  wsSeq (wsSet 2 (wLst [])) (w_read_disk_r1)
def w_read_disk_r3 : WS :=
  wsSeq (wsSet 1 (wM "str" mSplit (wVar 0) [ret (.str " / ")])) (wsSeq (wsIf (wOp pNe (wB bLen [wVar 1]) (ret (.int 3))) (wsRaise "NoText") (wsNil)) (w_read_disk_r2))
def w_read_disk : WS :=
  wsSeq (wsIf (wNot (wOp1 (pIsi "str") (wVar 0))) (wsRaise "NoText") (wsNil)) (w_read_disk_r3)

abbrev n_law_due : List Str := ["text", "parts", "disk", "part", "area", "word", "thing"]
def w_law_due_r1 : WS :=
  wsExpr (wM "list" mAppend (wVar 4) [wVar 6])
def w_law_due_r2 : WS :=
  wsExpr (wM "list" mAppend (wVar 2) [wVar 4])
def w_law_due_r3 : WS :=
  wsSeq (wsFor (tN 5) (wM "str" mSplit (wVar 3) [ret (.str " ")]) (wsSeq (wsSet 6 (wCall sp_law_pair [wVar 5] [])) (wsSeq (wsIf (wOp pEq (wVar 5) (ret (.str "."))) (wsSet 6 (wTup [])) (wsNil)) (w_law_due_r1)))) (w_law_due_r2)
def w_law_due_r4 : WS :=
  wsSeq (wsExpr (wM "list" mAppend (wVar 2) [wLst [wCall sp_law_pair [wOp pIx (wVar 1) (ret (.int 2))] []]])) (wsSeq (wsIf (wOr (wOp pInD (ret .non) (wOp pIx (wVar 2) (ret (.int 0)))) (wOr (wOp pInD (ret .non) (wOp pIx (wVar 2) (ret (.int 1)))) (wOp pInD (ret .non) (wOp pIx (wVar 2) (ret (.int 2)))))) (wsRet (ret .non)) (wsNil)) (wsRet (wVar 2)))
def w_law_due_r5 : WS :=
  wsSeq (wsFor (tN 3) (wSl (wVar 1) none (some (ret (.int 2)))) (wsSeq (wsSet 4 (wLst [])) (w_law_due_r3))) (w_law_due_r4)
def w_law_due_r6 : WS :=
  wsSeq (wsSet 2 (wLst [])) (w_law_due_r5)
def w_law_due_r7 : WS :=
  wsSeq (wsIf (wOp pNe (wB bLen [wVar 1]) (ret (.int 3))) (wsRet (ret .non)) (wsNil)) (w_law_due_r6)
def w_law_due : WS :=
  wsSeq (wsSet 1 (wM "str" mSplit (wVar 0) [ret (.str " / ")])) (w_law_due_r7)

abbrev n_law_text : List Str := ["cell", "parts", "k", "words", "place", "number", "word", "way"]
def w_law_text_r1 : WS :=
  wsExpr (wM "list" mAppend (wVar 3) [wOp pIx (wLst [ret (.str "."), wVar 6]) (wB bInt [wOp pGt (wOp pMod (wVar 5) (ret (.int 4))) (ret (.int 1))])])
def w_law_text_r2 : WS :=
  wsSeq (wsSet 6 (wOp pAdd (wOp pAdd (wB bStr [wOp pSub (wOp pMod (wOp pDiv (wVar 5) (ret (.int 4))) (ret (.int 30))) (ret (.int 9))]) (ret (.str ","))) (wB bStr [wOp pMod (wOp pDiv (wVar 5) (ret (.int 120))) (ret (.int 11))]))) (w_law_text_r1)
def w_law_text_r3 : WS :=
  wsExpr (wM "list" mAppend (wVar 1) [wM "str" mJoin (ret (.str " ")) [wVar 3]])
def w_law_text_r4 : WS :=
  wsSeq (wsIf (wOp pEq (wVar 7) (ret (.int 2))) (wsSet 1 (wOp1 pRev (wVar 1))) (wsNil)) (wsRet (wM "str" mJoin (ret (.str " / ")) [wVar 1]))
def w_law_text_r5 : WS :=
  wsSeq (wsIf (wOp pEq (wVar 7) (ret (.int 1))) (wsExpr (wM "list" mInsert (wVar 1) [wOp pMod (wOp pDiv (wVar 0) (ret (.int 300))) (ret (.int 4)), wOp pIx (wVar 1) (ret (.int 0))])) (wsNil)) (w_law_text_r4)
def w_law_text_r6 : WS :=
  wsSeq (wsIf (wOp pEq (wVar 7) (ret (.int 0))) (wsExpr (wM "list" mPopAt (wVar 1) [wOp pMod (wOp pDiv (wVar 0) (ret (.int 300))) (ret (.int 3))])) (wsNil)) (w_law_text_r5)
def w_law_text_r7 : WS :=
  wsSeq (wsExpr (wM "list" mAppend (wVar 1) [wOp pAdd (wOp pAdd (wB bStr [wOp pMod (wOp pDiv (wVar 0) (ret (.int 3))) (ret (.int 2))]) (ret (.str ","))) (wB bStr [wOp pMod (wOp pDiv (wVar 0) (ret (.int 6))) (ret (.int 3))])])) (wsSeq (wsSet 7 (wOp pMod (wOp pDiv (wVar 0) (ret (.int 18))) (ret (.int 12)))) (w_law_text_r6))
def w_law_text : WS :=
  wsSeq (wsSet 1 (wLst [])) (wsSeq (wsForR1 (tN 2) (ret (.int 2)) (wsSeq (wsSet 3 (wLst [])) (wsSeq (wsForR1 (tN 4) (wOp pAdd (ret (.int 1)) (wOp pMod (wOp pDiv (wCall sp_law_mixed [wVar 0, wVar 2] []) (ret (.int 3))) (ret (.int 5)))) (wsSeq (wsSet 5 (wCall sp_law_mixed [wVar 0, wOp pAdd (wOp pAdd (ret (.int 10)) (wOp pMul (ret (.int 9)) (wVar 2))) (wVar 4)] [])) (w_law_text_r2))) (w_law_text_r3)))) (w_law_text_r7))

abbrev n_law_spoilt : List Str := ["text", "cell", "at", "sign"]
def w_law_spoilt_r1 : WS :=
  wsSeq (wsIf (wOp pLt (wOp pMod (wVar 1) (ret (.int 8))) (ret (.int 7))) (wsRet (wOp pAdd (wOp pAdd (wSl (wVar 0) none (some (wVar 2))) (wVar 3)) (wSl (wVar 0) (some (wOp pAdd (wVar 2) (ret (.int 1)))) none))) (wsNil)) (wsRet (wOp pAdd (wSl (wVar 0) none (some (wVar 2))) (wSl (wVar 0) (some (wOp pAdd (wVar 2) (ret (.int 1)))) none)))
def w_law_spoilt_r2 : WS :=
  wsSeq (wsIf (wOp pLt (wOp pMod (wVar 1) (ret (.int 8))) (ret (.int 5))) (wsRet (wOp pAdd (wOp pAdd (wSl (wVar 0) none (some (wVar 2))) (wVar 3)) (wSl (wVar 0) (some (wVar 2)) none))) (wsNil)) (w_law_spoilt_r1)
def w_law_spoilt_r3 : WS :=
  wsSeq (wsIf (wOp pLt (wOp pMod (wVar 1) (ret (.int 8))) (ret (.int 3))) (wsRet (wVar 0)) (wsNil)) (w_law_spoilt_r2)
def w_law_spoilt_r4 : WS :=
  wsSeq (wsSet 3 (wOp pIx (ret (.str " .,/-07+_a\t\n")) (wOp pMod (wOp pDiv (wVar 1) (ret (.int 900))) (ret (.int 12))))) (w_law_spoilt_r3)
def w_law_spoilt : WS :=
  wsSeq (wsSet 2 (wOp pMod (wOp pDiv (wVar 1) (ret (.int 8))) (wOp pAdd (wB bLen [wVar 0]) (ret (.int 1))))) (w_law_spoilt_r4)

abbrev n_law_right : List Str := ["text", "due", "kinds", "found", "e"]
def w_law_right : WS :=
  wsSeq (wsSet 2 (wLst [])) (wsSeq (wsSet 3 (ret .non)) (wsSeq (wsTryAs 4 ["NoText"] (wsSet 3 (wCall sp_read_disk [wVar 0] [])) (fun c a => wsSeq (wsSet 2 (wLst [wIsE 4 a (isub c "NoText"), wIsE 4 a (isub c "Full" || (isub c "NoKey" || (isub c "BadBounds" || (isub c "BadDisk" || (isub c "NoRow" || false)))))])) (wsExpr (wM "list" mAppend (wVar 2) [wIsE 4 a true])))) (wsSeq (wsIf (wOp1 pIsN (wVar 1)) (wsRet (wOp pEq (wVar 2) (wLst [ret (.bl true), ret (.bl false), ret (.bl true)]))) (wsNil)) (wsRet (wAnd (wOp pEq (wVar 2) (wLst [])) (wOp pEq (wVar 3) (wVar 1)))))))

abbrev n_law : List Str := ["script", "cell", "one", "text", "odd"]
def w_law_r1 : WS :=
  wsIf (wNot (wCall sp_law_right [wOp pIx (wVar 4) (wOp pMod (wOp pDiv (wVar 1) (ret (.int 9))) (ret (.int 15))), ret .non] [])) (wsRet (ret (.bl false))) (wsNil)
def w_law_r2 : WS :=
  wsSeq (wsSet 4 (wOp pAdd (wVar 4) (wLst [ret (.str ". /. / 0,0"), ret (.str ". . 0,0"), ret .non, ret (.int 7), ret (.bl true), wLst [ret (.str ". / . / 0,0")], wTup [ret (.str "."), ret (.str "."), ret (.str "0,0")], wLst [wLst [wTup []], wLst [wTup []], wLst [wTup [ret (.int 0), ret (.int 0)]]]]))) (w_law_r1)
def w_law_r3 : WS :=
  wsSeq (wsSet 4 (wLst [ret (.str ""), ret (.str " / "), ret (.str ". / . / "), ret (.str " / . / 0,0"), ret (.str ". / . / ."), ret (.str ".  . / . / 0,0"), ret (.str ". / . / 0,0 ")])) (w_law_r2)
def w_law_r4 : WS :=
  wsSeq (wsIf (wNot (wCall sp_law_right [wVar 3, wCall sp_law_due [wVar 3] []] [])) (wsRet (ret (.bl false))) (wsNil)) (w_law_r3)
def w_law : WS :=
  wsSeq (wsFor (tN 1) (wComp [2] (tN 2) (wOp pAdd (wLst [ret (.int 0)]) (wSl (wVar 0) none (some (ret (.int 15))))) (wYes) (wCall sp_law_spread [wVar 2] [])) (wsSeq (wsSet 3 (wCall sp_law_spoilt [wCall sp_law_text [wVar 1] [], wOp pDiv (wVar 1) (ret (.int 5))] [])) (w_law_r4))) (wsRet (ret (.bl true)))

theorem find_fig (c : Nat) : Txt.find ("0123456789" : Str) ⟨#[c]⟩ = if 48 ≤ c ∧ c ≤ 57 then ((c - 48 : Nat) : Int) else -1 := by
  by_cases h : 48 ≤ c ∧ c ≤ 57
  · rw [if_pos h]
    have : c = 48 ∨ c = 49 ∨ c = 50 ∨ c = 51 ∨ c = 52 ∨ c = 53 ∨ c = 54 ∨ c = 55 ∨ c = 56 ∨ c = 57 := by omega
    rcases this with rfl | rfl | rfl | rfl | rfl | rfl | rfl | rfl | rfl | rfl <;> decide +kernel
  · rw [if_neg h]
    have e := in_figs c
    rw [decide_eq_false h] at e
    unfold Txt.find
    rw [List.isEmpty_iff.mp e]
def figV (l : List Nat) : Int := ((NumText.digitsVal l : Nat) : Int)
theorem figV_snoc (l : List Nat) (c : Nat) : figV (l ++ [c]) = figV l * 10 + ((c - 48 : Nat) : Int) := by
  unfold figV NumText.digitsVal
  rw [List.foldl_append]
  simp
theorem ob_law_number : Ob n_law_number sp_law_number w_law_number := by
  intro ds S Q E hS hd h
  unfold sp_law_number at h
  split at h
  · rename_i x
    obtain ⟨hz, hq⟩ := h
    have hz4 : 4000000 ≤ sizeLine := by decide
    have hx := len_tl x
    have r5 : ∀ y : Str, tl y = figsL (tl x) → w_law_number_r5 [some (.str x), some (.str y), none, none] S ⟨fun _ S' => RetQ S.length Q .non S', RetQ S.length Q⟩ (fun c _ S' => RetE S.length E c S') := by
      intro y hy
      have hyl : y.length = (figsL (tl x)).length := by rw [len_tl, hy]
      have hxl : (figsL (tl x)).length ≤ (tl x).length := by
        unfold figsL
        split <;> simp
      have hyz : y.length ≤ sizeLine := by omega
      have no : numOf (tl x) = none → Q .non S := fun h => by rw [h] at hq; exact hq
      simp -implicitDefEqProofs [hyz, w_law_number_r5]
      have good : 1 ≤ y.length → y.length ≤ 60 → w_law_number_r4 [some (.str x), some (.str y), none, none] S ⟨fun _ S' => RetQ S.length Q .non S', RetQ S.length Q⟩ (fun c _ S' => RetE S.length E c S') := by
        intro h1 h2
        unfold w_law_number_r4 w_law_number_r3
        simp -implicitDefEqProofs
        refine loop_inv (fun i ρ S' => S' = S ∧ (∀ c ∈ (tl y).take i, 48 ≤ c ∧ c ≤ 57) ∧ ∃ o, ρ = [some (.str x), some (.str y), some (.int (figV ((tl y).take i))), o]) _ 0 _ _ ⟨rfl, by simp, none, by simp [figV, NumText.digitsVal]⟩ (fun _ _ _ _ => trivial) ?_ ?_
        · rintro i z ρ S' N hi ⟨rfl, hall, o, rfl⟩ hN
          rw [Nat.zero_add] at hall hN
          have hi' : (tl y)[i]?.map (fun c => D.str ⟨#[c]⟩) = some z := by rw [← List.getElem?_map]; exact hi
          obtain ⟨c, hc, rfl⟩ := Option.map_eq_some_iff.mp hi'
          have hf := find_fig c
          have hT : ∀ G : Store, isT "str" G (.str ("0123456789" : Str)) := fun G => rfl
          unfold w_law_number_r1
          simp -implicitDefEqProofs [hf]
          by_cases hcd : 48 ≤ c ∧ c ≤ 57
          · refine .inl ⟨by rw [if_pos hcd]; omega, hN _ _ ⟨rfl, fun e he => ?_, some (.str ⟨#[c]⟩), ?_⟩⟩
            · rw [List.take_add_one, hc] at he
              rcases List.mem_append.mp he with he | he
              · exact hall e he
              · have : e = c := by simpa using he
                rw [this]; exact hcd
            · rw [if_pos hcd, List.take_add_one, hc]
              show _ = [some (D.str x), some (D.str y), some (D.int (figV (List.take i (tl y) ++ [c]))), some (D.str ⟨#[c]⟩)]
              rw [figV_snoc]
          · refine .inr ⟨by rw [if_neg hcd]; omega, ret_same (no ?_)⟩
            unfold numOf
            rw [if_neg (by omega), if_pos]
            unfold digB
            rw [List.all_eq_false]
            refine ⟨c, ?_, by simp [hcd]⟩
            rw [← hy]
            exact List.mem_of_getElem? hc
        · rintro ρ S' ⟨rfl, hall, o, rfl⟩
          rw [Nat.zero_add, chD_length, List.take_of_length_le (by simp)] at hall ⊢
          have hdig : digB (figsL (tl x)) = true := by
            unfold digB
            rw [List.all_eq_true, ← hy]
            exact fun c hc => decide_eq_true (hall c hc)
          have hne : figsL (tl x) ≠ [] := fun e => by rw [e] at hyl; simp at hyl; omega
          obtain ⟨c0, cs, hc0⟩ := List.exists_cons_of_ne_nil hne
          have h0 : atI y.cps.toList 0 = some c0 := by
            rw [show y.cps.toList = c0 :: cs from hy.trans hc0]
            exact atI_lt (xs := c0 :: cs) (i := 0) (by omega) (by simp)
          have hx0 : (x = ("0" : Str)) ↔ tl x = [48] := by rw [str_eq_iff, show tl ("0" : Str) = [48] by decide +kernel]
          have hs0 : ((⟨#[c0]⟩ : Str) = ("0" : Str)) ↔ c0 = 48 := by rw [str_eq_iff, show tl ("0" : Str) = [48] by decide +kernel]; simp [tl]
          have hyx : (y = x) ↔ ¬ (tl x).head? = some 45 := by
            rw [str_eq_iff, hy]
            unfold figsL
            constructor
            · intro h hm
              rw [if_pos hm] at h
              have := congrArg List.length h
              have hxne : tl x ≠ [] := fun e => by rw [e] at hm; cases hm
              have := List.length_pos_iff.mpr hxne
              simp at *
              omega
            · intro h
              rw [if_neg h]
          have hnum : (figsL (tl x)).head? = some c0 := by rw [hc0]; rfl
          have hv : ¬ (c0 = 48 ∧ tl x ≠ [48]) → numOf (tl x) = some (if (tl x).head? = some 45 then -(figV (tl y)) else figV (tl y)) := fun h => by
            unfold numOf
            rw [if_neg (by omega), if_neg (by simp [hdig]), if_neg]
            · rw [hy]; rfl
            · rw [hnum]
              simpa using h
          have hb : (c0 = 48 ∧ tl x ≠ [48]) → numOf (tl x) = none := fun h => by
            unfold numOf
            rw [if_neg (by omega), if_neg (by simp [hdig]), if_pos]
            rw [hnum]
            exact ⟨by rw [h.1], h.2⟩
          unfold w_law_number_r2
          simp -implicitDefEqProofs [h0, hyz, hx0, hs0]
          have fin : ¬ (c0 = 48 ∧ tl x ≠ [48]) → ∃ e, atI [D.int (figV (tl y)), D.int (-figV (tl y))] (if y = x then 0 else 1) = some e ∧ RetQ S'.length Q e (S' ++ [.lst [D.int (figV (tl y)), D.int (-figV (tl y))]]) := fun h => by
            rw [hv h] at hq
            by_cases hm : (tl x).head? = some 45
            · rw [if_pos hm] at hq
              rw [if_neg (fun e => hyx.mp e hm)]
              exact ⟨_, rfl, ret_pure hS (by simp only [Cl]) hq⟩
            · rw [if_neg hm] at hq
              rw [if_pos (hyx.mpr hm)]
              exact ⟨_, rfl, ret_pure hS (by simp only [Cl]) hq⟩
          by_cases hc48 : c0 = 48
          · rw [if_pos hc48]
            by_cases hx1 : tl x = [48]
            · exact .inl ⟨hx1, fin fun h => h.2 hx1⟩
            · exact .inr ⟨hx1, ret_same (no (hb ⟨hc48, hx1⟩))⟩
          · rw [if_neg hc48]
            exact fin fun h => hc48 h.1
      have bad : (y.length < 1 ∨ 60 < y.length) → RetQ S.length Q .non S := fun h => ret_same (no (by unfold numOf; rw [if_pos (by omega)]))
      split
      · rename_i h1
        exact bad (.inl (by omega))
      · rename_i h1
        by_cases h2 : y.length ≤ 60
        · exact .inl ⟨by omega, good (by omega) h2⟩
        · exact .inr ⟨by omega, bad (.inr (by omega))⟩
    simp -implicitDefEqProofs [w_law_number, w_law_number_r6, startD]
    have hzx : x.length ≤ sizeLine := by omega
    by_cases hm : cutS x none (some 1) = ("-" : Str)
    · refine ⟨hzx, .inr ⟨hm, hzx, r5 _ ?_⟩⟩
      rw [head_minus] at hm
      rw [tl_cut1]
      unfold figsL
      rw [if_pos hm, List.drop_one]
    · refine ⟨hzx, .inl ⟨hm, r5 _ ?_⟩⟩
      rw [head_minus] at hm
      unfold figsL
      rw [if_neg hm]
  · exact h.elim
theorem mapO_map {α β : Type} {f : α → Option β} : ∀ {l : List α} {r : List β}, mapO f l = some r → l.map f = r.map some
  | [], r, h => by cases h; rfl
  | a :: l, r, h => by
    have h : (match f a, mapO f l with
      | some b, some bs => some (b :: bs)
      | _, _ => none) = some r := h
    split at h
    · rename_i b bs e1 e2
      cases h
      rw [List.map_cons, List.map_cons, e1, mapO_map e2]
    · cases h
def rdPl (y : List Nat) : D := match placeOf y with
  | some p => ePl.enc p
  | none => .non
theorem rdPl_map {l : List (List Nat)} {r : List Pl} (h : mapO placeOf l = some r) : l.map rdPl = r.map ePl.enc := by
  have := congrArg (List.map fun o : Option Pl => match o with
    | some p => ePl.enc p
    | none => D.non) (mapO_map h)
  rw [List.map_map, List.map_map] at this
  exact this
theorem mapO_mem {α β : Type} {f : α → Option β} {l : List α} {r : List β} (h : mapO f l = some r) {a : α} (ha : a ∈ l) : ∃ b, f a = some b := by
  have h1 := mapO_map h
  have h2 : f a ∈ l.map f := List.mem_map_of_mem ha
  rw [h1] at h2
  obtain ⟨b, _, e⟩ := List.mem_map.mp h2
  exact ⟨b, e.symm⟩
theorem diskOf_inv {x : List Nat} {d : Dk} (h : diskOf x = some d) : ∃ (a b c : List Nat) (p q : List Pl) (t : Th), spl [32, 47, 32] 0 [] x = [a, b, c] ∧ areaOf a = some p ∧ areaOf b = some q ∧ pairOf c = some t ∧ d = ⟨p, q, [some t]⟩ := by
  unfold diskOf at h
  split at h
  · rename_i a b c e
    split at h
    · rename_i p q t e1 e2 e3
      cases h
      exact ⟨a, b, c, p, q, t, e, e1, e2, e3, rfl⟩
    · cases h
  · cases h
theorem cutS_two (x : Str) {a b : Int} (ha : 0 ≤ a) (hab : a ≤ b) : (cutS x none (some a)).length + (cutS x (some b) none).length ≤ x.length := by
  have hl : x.cps.toList.length = x.length := Array.length_toList
  obtain ⟨k, rfl⟩ := Int.eq_ofNat_of_zero_le ha
  obtain ⟨m, rfl⟩ := Int.eq_ofNat_of_zero_le (show 0 ≤ b by omega)
  have e1 : (cutS x none (some (k : Int))).length = min k x.length := by
    rw [len_tl]
    show ((x.cps.toList.drop (HT.sIx x.length 0 none)).take (HT.sIx x.length x.length (some (k : Int)) - HT.sIx x.length 0 none)).length = _
    rw [HT.sIx_none, HT.sIx_nat, List.length_take, List.length_drop, hl]
    omega
  have e2 : (cutS x (some (m : Int)) none).length = x.length - min m x.length := by
    rw [len_tl]
    show ((x.cps.toList.drop (HT.sIx x.length 0 (some (m : Int)))).take (HT.sIx x.length x.length none - HT.sIx x.length 0 (some (m : Int)))).length = _
    rw [HT.sIx_none, HT.sIx_nat, List.length_take, List.length_drop, hl]
    omega
  omega
theorem ob_law_spoilt : Ob n_law_spoilt sp_law_spoilt w_law_spoilt := by
  intro ds S Q E hS hd h
  unfold sp_law_spoilt at h
  split at h
  · rename_i x c
    obtain ⟨hz, hq⟩ := h
    have hzz : 10000 ≤ sizeLine := by decide
    simp -implicitDefEqProofs [w_law_spoilt, startD]
    refine ⟨by omega, ?_⟩
    have a0 : 0 ≤ c / 8 % ((x.length : Int) + 1) := Int.emod_nonneg _ (by omega)
    generalize c / 8 % ((x.length : Int) + 1) = at' at *
    unfold w_law_spoilt_r4
    simp -implicitDefEqProofs
    have hsl : (tl (" .,/-07+_a\t\n" : Str)).length = 12 := by decide +kernel
    have hsz : (" .,/-07+_a\t\n" : Str).length ≤ sizeLine := by decide +kernel
    obtain ⟨g, hg⟩ : ∃ g, atI (" .,/-07+_a\t\n" : Str).cps.toList (c / 900 % 12) = some g := ⟨_, atI_lt (by omega) (by rw [show (" .,/-07+_a\t\n" : Str).cps.toList.length = 12 from hsl]; omega)⟩
    refine ⟨hsz, g, hg, ?_⟩
    have lg : (⟨#[g]⟩ : Str).length = 1 := rfl
    have k1 := cutS_two x a0 (Int.le_refl at')
    have k2 := cutS_two x a0 (show at' ≤ at' + 1 by omega)
    unfold w_law_spoilt_r3 w_law_spoilt_r2 w_law_spoilt_r1
    simp -implicitDefEqProofs
    have hxz : x.length ≤ sizeLine := by omega
    by_cases h3 : c % 8 < 3
    · exact .inr ⟨h3, ret_same (hq _ (by omega))⟩
    refine .inl ⟨by omega, ?_⟩
    by_cases h5 : c % 8 < 5
    · exact .inr ⟨h5, hxz, by rw [lg]; omega, hxz, by rw [Str.length_append, lg]; omega, ret_same (hq _ (by rw [Str.length_append, Str.length_append, lg]; omega))⟩
    refine .inl ⟨by omega, ?_⟩
    by_cases h7 : c % 8 < 7
    · exact .inr ⟨h7, hxz, by rw [lg]; omega, hxz, by rw [Str.length_append, lg]; omega, ret_same (hq _ (by rw [Str.length_append, Str.length_append, lg]; omega))⟩
    · exact .inl ⟨by omega, hxz, by omega, ret_same (hq _ (by rw [Str.length_append]; omega))⟩
  · exact h.elim
theorem xN1 : isub "NoText" "NoText" = true := by decide +kernel
theorem xN2 : isub "NoText" "Full" = false := by decide +kernel
theorem xN3 : isub "NoText" "NoKey" = false := by decide +kernel
theorem xN4 : isub "NoText" "BadBounds" = false := by decide +kernel
theorem xN5 : isub "NoText" "BadDisk" = false := by decide +kernel
theorem xN6 : isub "NoText" "NoRow" = false := by decide +kernel
theorem dpy_dk {S : Store} {k : Nat} {d : Dk} (h : DkAt S k d) : DPy S (.ref k) (.list [.list (d.a.map ePl.py), .list (d.b.map ePl.py), .list (d.c.map ePl.py)]) := by
  obtain ⟨i, j, l, h1, h2, h3, h4⟩ := h
  exact .lst h1 (.cons (.lst h2 (dpys_map ePl S d.a)) (.cons (.lst h3 (dpys_map ePl S d.b)) (.cons (.lst h4 (dpys_map ePl S d.c)) .nil)))
theorem shaped_dk (d : Dk) : SeqAt.shaped (.list [.list (d.a.map ePl.py), .list (d.b.map ePl.py), .list (d.c.map ePl.py)]) = true := by
  have h1 := depAll_map ePl d.a
  have h2 := depAll_map ePl d.b
  have h3 := depAll_map ePl d.c
  unfold SeqAt.shaped
  rw [Bool.and_eq_true]
  refine ⟨by simp only [PyData.canLay0, PyData.canLayAll0, layAll_map ePl d.a, layAll_map ePl d.b, layAll_map ePl d.c, Bool.and_self, Bool.true_and], decide_eq_true ?_⟩
  simp only [PyData.depth, PyData.depthAll]
  omega
theorem ne_dk {S : Store} {ρ : DEnv} {Q : PQ} {E : PX} {i j : Nat} {d : Dk} (h : DkAt S i d) (h2 : DkAt S j d) (q : Q (.bl false) S) : pNe (.ref i) (.ref j) ρ S Q E :=
  pNe_gen ⟨_, _, dpy_dk h, dpy_dk h2, shaped_dk d, shaped_dk d, by simpa [PyData.eqv, PyData.eqvAll, eqvAll_map] using q⟩
theorem mapO_none {α β : Type} {f : α → Option β} : ∀ {l : List α}, mapO f l = none ↔ none ∈ l.map f
  | [] => by simp [mapO]
  | a :: l => by
    have ih := mapO_none (f := f) (l := l)
    have h : mapO f (a :: l) = (match f a, mapO f l with
      | some b, some bs => some (b :: bs)
      | _, _ => none) := rfl
    rw [h, List.map_cons, List.mem_cons]
    cases e1 : f a with
    | none => simp
    | some b =>
      cases e2 : mapO f l with
      | none => simp [ih.mp e2]
      | some bs =>
        have : ¬ none ∈ l.map f := fun hm => by rw [ih.mpr hm] at e2; cases e2
        simp [this]
theorem mapO_snoc {α β : Type} {f : α → Option β} : ∀ {l : List α} {bs : List β} {a : α} {b : β}, mapO f l = some bs → f a = some b → mapO f (l ++ [a]) = some (bs ++ [b])
  | [], bs, a, b, h, e => by
    cases h
    show (match f a, mapO f [] with
      | some b, some bs => some (b :: bs)
      | _, _ => none) = _
    rw [e]; rfl
  | c :: l, bs, a, b, h, e => by
    have h : (match f c, mapO f l with
      | some b, some bs => some (b :: bs)
      | _, _ => none) = some bs := h
    split at h
    · rename_i b1 bs1 e1 e2
      cases h
      show (match f c, mapO f (l ++ [a]) with
        | some b, some bs => some (b :: bs)
        | _, _ => none) = _
      rw [e1, mapO_snoc e2 e]; rfl
    · cases h
theorem words_len {S : List Nat} {y w : List Nat} (hy : y.length ≤ 1000000) (hw : w ∈ spl S 0 [] y) : (tS w).length ≤ 1000000 := by
  have := (spl_lens S y 0 []).2 w hw
  rw [List.length_nil, Nat.zero_add] at this
  rw [tS_len]; omega
theorem numD_enc (o : Option Int) : numD o = eON.enc o := by cases o <;> rfl
def rdN : D → D
  | .str w => eON.enc (numOf (tl w))
  | _ => .non
theorem rdN_map (ws : List (List Nat)) : (ws.map (D.str ∘ tS)).map rdN = (ws.map numOf).map eON.enc := by
  rw [List.map_map, List.map_map]; rfl
theorem ob_law_pair : Ob n_law_pair sp_law_pair w_law_pair := by
  intro ds S Q E hS hd h
  unfold sp_law_pair at h
  split at h
  · rename_i x
    obtain ⟨hz, hq⟩ := h
    have hz4 : 4000000 ≤ sizeLine := by decide
    have hl := len_tl x
    have hs := spl_lens [44] (tl x) 0 []
    have ec : ("," : Str).length ≠ 0 := by decide +kernel
    simp -implicitDefEqProofs [w_law_pair, startD, split_comma, ec]
    refine ⟨by omega, by omega, _, get_at, ?_⟩
    refine comp_listY rdN get_at (fun d hd N hN => ?_) ?_
    · obtain ⟨w, hw, rfl⟩ := List.mem_map.mp hd
      have hN : N (eON.enc (numOf w)) _ := hN
      simp -implicitDefEqProofs
      exact ⟨words_len (by omega) hw, by rw [numD_enc]; exact hN⟩
    rw [rdN_map]
    have hp : pairOf (tl x) = match spl [44] 0 [] (tl x) with
      | [a, b] => match numOf a, numOf b with
        | some i, some j => some (i, j)
        | _, _ => none
      | _ => none := rfl
    rw [hp] at hq
    clear hp hl
    generalize spl [44] 0 [] (tl x) = ws at *
    have h0 : (S ++ [Cell.lst (ws.map (D.str ∘ tS))] ++ [Cell.lst ((ws.map numOf).map eON.enc)])[(S ++ [Cell.lst (ws.map (D.str ∘ tS))]).length]? = some (.lst ((ws.map numOf).map eON.enc)) := get_at
    have hl1 : (S ++ [Cell.lst (ws.map (D.str ∘ tS))]).length = S.length + 1 := by simp
    rw [hl1] at h0
    unfold w_law_pair_r1
    simp -implicitDefEqProofs [-List.append_assoc, -List.length_append, hl1, h0, -List.map_map]
    have no : ∀ G, eOT.enc (match ws with
      | [a, b] => match numOf a, numOf b with
        | some i, some j => some (i, j)
        | _, _ => none
      | _ => none) = .non → RetQ S.length Q .non (S ++ G) := fun G e => by
      rw [e] at hq
      exact ret_pure hS (by simp only [Cl]) hq
    split
    · rename_i h2
      have h2 : ws.length = 2 := by omega
      match ws, h2 with
      | [a, b], _ =>
        refine in_none (e := eInt) (h1 := _) (h2 := _) h0 fun kk hkk => ?_
        have hkk : kk = decide (numOf a = none ∨ numOf b = none) := by
          have : (none ∈ [a, b].map numOf) ↔ (numOf a = none ∨ numOf b = none) := by
            simp only [List.map_cons, List.map_nil, List.mem_cons, List.not_mem_nil, or_false]
            exact ⟨fun h => h.elim (fun e => .inl e.symm) fun e => .inr e.symm, fun h => h.elim (fun e => .inl e.symm) fun e => .inr e.symm⟩
          rw [this] at hkk
          cases kk with
          | true => exact (decide_eq_true (hkk.mp rfl)).symm
          | false => exact (decide_eq_false fun h => by have := hkk.mpr h; cases this).symm
        subst hkk
        simp -implicitDefEqProofs [-List.append_assoc, -List.length_append]
        cases e1 : numOf a with
        | none =>
          refine .inr ⟨.inl rfl, ?_⟩
          rw [List.append_assoc]
          exact no _ (by simp only [e1]; rfl)
        | some i =>
          cases e2 : numOf b with
          | none =>
            refine .inr ⟨.inr rfl, ?_⟩
            rw [List.append_assoc]
            exact no _ (by simp only [e1, e2]; rfl)
          | some j =>
            simp only [e1, e2] at hq
            have h1 : (S ++ [Cell.lst [D.str (tS a), D.str (tS b)]] ++ [Cell.lst [eON.enc (some i), eON.enc (some j)]])[S.length + 1]? = some (.lst [.int i, .int j]) := by
              have := h0
              simp only [List.map_cons, List.map_nil, e1, e2] at this
              exact this
            refine .inl ⟨⟨by simp, by simp⟩, _, h1, _, rfl, _, h1, _, rfl, ?_⟩
            rw [List.append_assoc]
            exact ret_pure hS (by simp [Cl, Cls']) hq
    · rename_i h2
      rw [List.append_assoc]
      refine no _ ?_
      match ws, h2 with
      | [], _ => rfl
      | [a], _ => rfl
      | [a, b], h => exact absurd rfl h
      | a :: b :: c :: r, _ => rfl
  · exact h.elim
/-- the places of one area, word by word, or the refusal -/
theorem comp_wordsX {m : Nat} {ρ : DEnv} {U : Store} {Q : PQ} {E : Str → Store → Prop} {y : List Nat} (hm : U[m]? = some (.lst ((spl [32] 0 [] y).map fun w => D.str (tS w)))) (hy : y.length ≤ 1000000) (h4 : 4 < ρ.length)
    (hq : ∀ p, areaOf y = some p → Q (.ref U.length) (U ++ [shp p])) (hx : areaOf y = none → E "NoText" U) :
    compGX (atL m ((spl [32] 0 [] y).map fun w => D.str (tS w))) (tN 4) wYes (wCall sp_read_place [wVar 4] []) E ((spl [32] 0 [] y).map fun w => D.str (tS w)) [] ρ U Q := by
  refine comp_listXY (fun i acc U' => U' = U ∧ ∃ ps, mapO placeOf ((spl [32] 0 [] y).take i) = some ps ∧ acc = ps.map ePl.enc) ⟨rfl, [], rfl, rfl⟩ (fun _ _ _ h => by rw [h.1]; exact hm) ?_ ?_ ?_
  · rintro i acc U' d Q' hd ⟨rfl, ps, hps, rfl⟩ hQ'
    rw [List.getElem?_map] at hd
    obtain ⟨w, hw, rfl⟩ := Option.map_eq_some_iff.mp hd
    have hv : ∀ e, (ρ.set 4 e)[4]? = some e := fun e => by simp [h4]
    have hwm : w ∈ spl [32] 0 [] y := List.mem_of_getElem? hw
    simp -implicitDefEqProofs [hv]
    refine ⟨words_len hy hwm, fun p hp => hQ' _ _ ⟨rfl, ps ++ [p], ?_, by simp⟩, fun hn => hx ?_⟩
    · rw [List.take_add_one, hw]
      exact mapO_snoc hps hp
    · exact mapO_none.mpr (List.mem_map.mpr ⟨w, hwm, hn⟩)
  · rintro acc U' ⟨rfl, ps, hps, rfl⟩
    refine hq ps ?_
    rw [List.length_map, List.take_length] at hps
    exact hps
  · intro d ρ P P' h hb
    exact h _ hb
theorem no3 {a b c : List Nat} (h : areaOf a = none ∨ areaOf b = none ∨ pairOf c = none) : (match areaOf a, areaOf b, pairOf c with
    | some p, some q, some t => some (⟨p, q, [some t]⟩ : Dk)
    | _, _, _ => none) = none := by
  rcases h with h | h | h
  · rw [h]
  · rw [h]; cases areaOf a <;> rfl
  · rw [h]; cases areaOf a <;> cases areaOf b <;> rfl
theorem ob_read_disk : Ob n_read_disk sp_read_disk w_read_disk := by
  intro ds S Q E hS hd h
  unfold sp_read_disk at h
  split at h
  · rename_i x
    obtain ⟨hz, hy, hn⟩ := h
    have hz4 : 4000000 ≤ sizeLine := by decide
    have hl := len_tl x
    have hs := spl_lens [32, 47, 32] (tl x) 0 []
    have hD : diskOf (tl x) = match spl [32, 47, 32] 0 [] (tl x) with
      | [a, b, c] => match areaOf a, areaOf b, pairOf c with
        | some p, some q, some t => some ⟨p, q, [some t]⟩
        | _, _, _ => none
      | _ => none := rfl
    rw [hD] at hy hn
    clear hD
    simp -implicitDefEqProofs [w_read_disk, startD, isi]
    unfold w_read_disk_r3
    simp -implicitDefEqProofs [split_stroke]
    refine ⟨by decide +kernel, by omega, by omega, ?_⟩
    generalize spl [32, 47, 32] 0 [] (tl x) = ws at *
    have gl : ∀ {G : Store} {c : Cell} (k : Nat), G[k]? = some c → (S ++ G)[S.length + k]? = some c := fun {G c} k h => (atn k).trans h
    by_cases h2 : ws.length = 3
    · refine .inl ⟨by omega, ?_⟩
      match ws, h2 with
      | [a, b, c], _ =>
        have la := hs.2 a (by simp)
        have lb := hs.2 b (by simp)
        have lc := hs.2 c (by simp)
        rw [List.length_nil, Nat.zero_add] at la lb lc
        have hcut : cutD [D.str (tS a), D.str (tS b), D.str (tS c)] none (some 2) = [D.str (tS a), D.str (tS b)] := rfl
        have sa := spl_lens [32] a 0 []
        have sb := spl_lens [32] b 0 []
        have eb : (" " : Str).length ≠ 0 := by decide +kernel
        unfold w_read_disk_r2 w_read_disk_r1
        simp -implicitDefEqProofs [hcut, loopG, atL, split_blank, eb]
        refine ⟨(List.getElem?_eq_some_iff.mp (gl 2 rfl)).2, isT_list (xs := []) (gl 1 rfl), by rw [tS_len]; omega, ?_, comp_wordsX (y := a) (m := S.length + 3) (gl 3 rfl) (by omega) (by simp) (fun p ha => ?_) fun ha => ?_⟩
        · rw [tl_tS]; omega
        · simp -implicitDefEqProofs only [List.append_assoc, List.length_append, List.cons_append, List.nil_append, List.length_cons, List.length_nil]
          refine ⟨[], gl 1 rfl, by decide, gl 2 rfl, ?_⟩
          rw [setn 1]
          refine ⟨isT_list (xs := _) (gl 1 rfl), by rw [tS_len]; omega, by rw [tl_tS]; omega, comp_wordsX (y := b) (by rw [List.append_assoc]; exact gl 5 rfl) (by omega) (by simp) (fun q hb => ?_) fun hb => ?_⟩
          · simp -implicitDefEqProofs only [List.append_assoc, List.length_append, List.length_set, List.cons_append, List.nil_append, List.length_cons, List.length_nil]
            refine ⟨[.ref (S.length + (0 + 1 + 1 + 1 + 1))], gl 1 rfl, Nat.lt_of_lt_of_le (show 1 < 10 by omega) (by decide), gl 2 rfl, ?_⟩
            rw [setn 1]
            refine ⟨_, gl 1 rfl, _, rfl, _, gl 1 rfl, _, rfl, _, gl 0 rfl, _, rfl, by rw [tS_len]; omega, fun t ht => ?_, fun ht => ?_⟩
            · have hy := hy ⟨p, q, [some t]⟩ (by simp only [ha, hb, show pairOf c = some t from ht])
              simp -implicitDefEqProofs only [List.append_assoc, List.length_append, List.length_set, List.cons_append, List.nil_append, List.length_cons, List.length_nil]
              refine ret_disk (d := ⟨p, q, [some t]⟩) (k := S.length + 8) (i := S.length + 4) (j := S.length + 6) (l := S.length + 7) hS (fun i hi => by rw [List.getElem?_append_left hi]) (gl 8 rfl) (gl 4 rfl) (gl 6 rfl) (gl 7 rfl) (by simp) (by simp) hy
            · exact raise_pure hS (hn (no3 (.inr (.inr ht))))
          · rw [List.append_assoc]
            exact raise_pure hS (hn (no3 (.inr (.inl hb))))
        · exact raise_pure hS (hn (no3 (.inl ha)))
    · refine .inr ⟨by omega, raise_pure hS (hn ?_)⟩
      match ws, h2 with
      | [], _ => rfl
      | [a], _ => rfl
      | [a, b], _ => rfl
      | [a, b, c], h => exact absurd rfl h
      | a :: b :: c :: e :: r, _ => rfl
  · rename_i d hno
    obtain ⟨⟨a, ha, hne⟩, hq⟩ := h
    simp -implicitDefEqProofs [w_read_disk, startD, ha, isi]
    exact .inr ⟨hne, .inl hq⟩
  · exact h.elim
theorem mk_pl (w : List Nat) : (if w = [46] then D.tup [] else eOT.enc (pairOf w)) = eOP.enc (placeOf w) := by
  unfold placeOf
  split
  · rfl
  · cases pairOf w <;> rfl
theorem ob_law_due : Ob n_law_due sp_law_due w_law_due := by
  intro ds S Q E hS hd h
  unfold sp_law_due at h
  split at h
  · rename_i x
    obtain ⟨hz, hy, hn⟩ := h
    have hz4 : 4000000 ≤ sizeLine := by decide
    have hl := len_tl x
    have hs := spl_lens [32, 47, 32] (tl x) 0 []
    have hD : diskOf (tl x) = match spl [32, 47, 32] 0 [] (tl x) with
      | [a, b, c] => match areaOf a, areaOf b, pairOf c with
        | some p, some q, some t => some ⟨p, q, [some t]⟩
        | _, _, _ => none
      | _ => none := rfl
    rw [hD] at hy hn
    clear hD
    have es : (" / " : Str).length ≠ 0 := by decide +kernel
    have eb : (" " : Str).length ≠ 0 := by decide +kernel
    simp -implicitDefEqProofs [w_law_due, startD, split_stroke, es]
    refine ⟨by omega, by omega, ?_⟩
    generalize spl [32, 47, 32] 0 [] (tl x) = ws at *
    have gl : ∀ {G : Store} {c : Cell} (k : Nat), G[k]? = some c → (S ++ G)[S.length + k]? = some c := fun {G c} k h => (atn k).trans h
    have words : ∀ (y : List Nat) (U : Store) (y4 y5 y6 : Option D) (dd : List D) (N : DEnv → Store → Prop), y.length ≤ 1000000 → U[S.length + 1]? = some (.lst dd) → dd.length < 10 →
        (∀ y4 y5 y6 U', U'[S.length + 1]? = some (.lst (dd ++ [.ref U.length])) → U'[U.length]? = some (.lst (((spl [32] 0 [] y).map placeOf).map eOP.enc)) → (∀ m, m < U.length → m ≠ S.length + 1 → U'[m]? = U[m]?) → U.length < U'.length →
          N [some (.str x), some (.ref S.length), some (.ref (S.length + 1)), some (.str (tS y)), y4, y5, y6] U') →
        (wsSeq (wsSet 4 (wLst [])) w_law_due_r3) [some (.str x), some (.ref S.length), some (.ref (S.length + 1)), some (.str (tS y)), y4, y5, y6] U ⟨N, RetQ S.length Q⟩ (fun c x S' => RetE S.length E c S') := by
      intro y U y4 y5 y6 dd N hyl hU hdd hN
      have hUl : S.length + 1 < U.length := (List.getElem?_eq_some_iff.mp hU).1
      have sa := spl_lens [32] y 0 []
      simp -implicitDefEqProofs [w_law_due_r3, split_blank, eb]
      rw [tl_tS]
      generalize spl [32] 0 [] y = wl at *
      have ew : wl.map (D.str ∘ tS) = wl.map fun w => D.str (tS w) := rfl
      rw [ew]
      have h0 : (U ++ [Cell.lst [], Cell.lst (wl.map fun w => D.str (tS w))])[U.length]? = some (.lst []) := by simpa using atn (S := U) (G := [Cell.lst [], Cell.lst (wl.map fun w => D.str (tS w))]) 0
      have h1 : (U ++ [Cell.lst [], Cell.lst (wl.map fun w => D.str (tS w))])[U.length + 1]? = some (.lst (wl.map fun w => D.str (tS w))) := (atn 1).trans rfl
      have hu : ∀ m, m < U.length → (U ++ [Cell.lst [], Cell.lst (wl.map fun w => D.str (tS w))])[m]? = U[m]? := fun m hm => List.getElem?_append_left hm
      have h2 : U.length + 1 < (U ++ [Cell.lst [], Cell.lst (wl.map fun w => D.str (tS w))]).length := by simp
      generalize (U ++ [Cell.lst [], Cell.lst (wl.map fun w => D.str (tS w))]) = U1 at *
      refine ⟨by rw [tS_len]; omega, by omega, _, h1, loop_list (fun i ρ U' => (∃ y5 y6, ρ = [some (.str x), some (.ref S.length), some (.ref (S.length + 1)), some (.str (tS y)), some (.ref U.length), y5, y6]) ∧ U'[U.length]? = some (.lst (((wl.take i).map placeOf).map eOP.enc)) ∧
        (∀ m, m < U.length → U'[m]? = U[m]?) ∧ U'[U.length + 1]? = some (.lst (wl.map fun w => D.str (tS w)))) ⟨⟨_, _, rfl⟩, h0, hu, h1⟩ (fun i ρ U' ⟨_, _, _, h⟩ => h) ?_ ?_⟩
      · rintro i d ρ U' N' hi ⟨⟨y5', y6', rfl⟩, hw, hu', hw1⟩ hN'
        rw [List.getElem?_map] at hi
        obtain ⟨w, hw0, rfl⟩ := Option.map_eq_some_iff.mp hi
        have hwm : w ∈ wl := List.mem_of_getElem? hw0
        have hwl := sa.2 w hwm
        rw [List.length_nil, Nat.zero_add] at hwl
        have hU'l : U.length + 1 < U'.length := (List.getElem?_eq_some_iff.mp hw1).1
        have hil : (((wl.take i).map placeOf).map eOP.enc).length < sizeLine := by simp; omega
        have hnx : ∀ d y5 y6, d = eOP.enc (placeOf w) → N' [some (.str x), some (.ref S.length), some (.ref (S.length + 1)), some (.str (tS y)), some (.ref U.length), y5, y6] (U'.set U.length (.lst (((wl.take i).map placeOf).map eOP.enc ++ [d]))) := fun d y5 y6 e => by
          subst e
          refine hN' _ _ ⟨⟨_, _, rfl⟩, ?_, fun m hm => ?_, ?_⟩
          · rw [List.getElem?_set_self (by omega), List.take_add_one, hw0]
            simp
          · rw [List.getElem?_set_ne (by omega)]; exact hu' m hm
          · rw [List.getElem?_set_ne (by omega)]; exact hw1
        have hmk := mk_pl w
        generalize ((wl.take i).map placeOf).map eOP.enc = acc at *
        have e46 : (tS w = ("." : Str)) ↔ w = [46] := by
          constructor
          · intro e
            have := congrArg tl e
            rw [tl_dot] at this
            exact this
          · intro e
            subst e
            exact ext_tl tl_dot.symm
        simp -implicitDefEqProofs
        refine ⟨by rw [tS_len]; omega, ?_⟩
        unfold w_law_due_r1
        simp -implicitDefEqProofs
        by_cases hdot : w = [46]
        · exact .inr ⟨e46.mpr hdot, isT_list hw, acc, hw, hil, hnx _ _ _ (by rw [← hmk, if_pos hdot])⟩
        · exact .inl ⟨fun e => hdot (e46.mp e), isT_list hw, acc, hw, hil, hnx _ _ _ (by rw [← hmk, if_neg hdot, tl_tS])⟩
      · rintro ρ U' ⟨⟨y5', y6', rfl⟩, hw, hu', hw1⟩
        rw [show (wl.map fun w => D.str (tS w)).length = wl.length by simp, List.take_length] at hw
        have hU'l : U.length + 1 < U'.length := (List.getElem?_eq_some_iff.mp hw1).1
        have hk := (hu' _ hUl).trans hU
        simp -implicitDefEqProofs [w_law_due_r2]
        refine ⟨isT_list hk, dd, hk, by omega, hN _ _ _ _ ?_ ?_ (fun m hm hne => ?_) (by simp; omega)⟩
        · rw [List.getElem?_set_self (by omega)]
        · rw [List.getElem?_set_ne (by omega)]; exact hw
        · rw [List.getElem?_set_ne (by omega)]; exact hu' m hm
    unfold w_law_due_r7
    simp -implicitDefEqProofs
    by_cases h2 : ws.length = 3
    · refine .inl ⟨by omega, ?_⟩
      match ws, h2 with
      | [a, b, c], _ =>
        have la := hs.2 a (by simp)
        have lb := hs.2 b (by simp)
        have lc := hs.2 c (by simp)
        rw [List.length_nil, Nat.zero_add] at la lb lc
        have hcut : cutD [D.str (tS a), D.str (tS b), D.str (tS c)] none (some 2) = [D.str (tS a), D.str (tS b)] := rfl
        unfold w_law_due_r6 w_law_due_r5
        simp -implicitDefEqProofs [hcut]
        have hTl : (S ++ [Cell.lst [D.str (tS a), D.str (tS b), D.str (tS c)], Cell.lst [], Cell.lst [D.str (tS a), D.str (tS b)]]).length = S.length + 3 := by simp
        have hT0 : ∀ m, m < S.length → (S ++ [Cell.lst [D.str (tS a), D.str (tS b), D.str (tS c)], Cell.lst [], Cell.lst [D.str (tS a), D.str (tS b)]])[m]? = S[m]? := fun m hm => List.getElem?_append_left hm
        refine ⟨[.str (tS a), .str (tS b)], gl 2 rfl, gl 2 rfl, ?_⟩
        have t0 := gl (G := [Cell.lst [D.str (tS a), D.str (tS b), D.str (tS c)], Cell.lst [], Cell.lst [D.str (tS a), D.str (tS b)]]) 0 rfl
        have t1 := gl (G := [Cell.lst [D.str (tS a), D.str (tS b), D.str (tS c)], Cell.lst [], Cell.lst [D.str (tS a), D.str (tS b)]]) 1 rfl
        have t2 := gl (G := [Cell.lst [D.str (tS a), D.str (tS b), D.str (tS c)], Cell.lst [], Cell.lst [D.str (tS a), D.str (tS b)]]) 2 rfl
        rw [Nat.add_zero] at t0
        rw [show S.length + 1 + 1 = S.length + 2 by omega]
        generalize (S ++ [Cell.lst [D.str (tS a), D.str (tS b), D.str (tS c)], Cell.lst [], Cell.lst [D.str (tS a), D.str (tS b)]]) = T at *
        refine words a T _ _ _ [] _ (by omega) t1 (by decide) fun y4 y5 y6 U hU1 hU2 hU3 hU4 => ⟨(hU3 _ (by omega) (by omega)).trans t2, words b U _ _ _ [.ref T.length] _ (by omega) hU1 (by simp) fun z4 z5 z6 V hV1 hV2 hV3 hV4 => ⟨(hV3 _ (by omega) (by omega)).trans ((hU3 _ (by omega) (by omega)).trans t2), ?_⟩⟩
        have v0 := (hV3 S.length (by omega) (by omega)).trans ((hU3 _ (by omega) (by omega)).trans t0)
        have va := (hV3 T.length (by omega) (by omega)).trans hU2
        have vS : ∀ m, m < S.length → V[m]? = S[m]? := fun m hm => (hV3 m (by omega) (by omega)).trans ((hU3 m (by omega) (by omega)).trans (hT0 m hm))
        clear words hU2 hU3 hV3 hU1
        have hoa : areaOf a = mapO placeOf (spl [32] 0 [] a) := rfl
        have hob : areaOf b = mapO placeOf (spl [32] 0 [] b) := rfl
        generalize spl [32] 0 [] a = wa at *
        generalize spl [32] 0 [] b = wb at *
        unfold w_law_due_r4
        simp -implicitDefEqProofs [v0]
        have hlV : S.length + 1 < V.length := (List.getElem?_eq_some_iff.mp hV1).1
        refine ⟨isT_list hV1, _, rfl, by rw [tS_len]; omega, _, app_get hV1, by simpa using Nat.lt_of_lt_of_le (show 2 < 10 by omega) (by decide : 10 ≤ sizeLine), ?_⟩
        have w1 : ((V ++ [Cell.lst [eOT.enc (pairOf (tl (tS c)))]]).set (S.length + 1) (.lst ([D.ref T.length] ++ [D.ref U.length] ++ [.ref V.length])))[S.length + 1]? = some (.lst [.ref T.length, .ref U.length, .ref V.length]) := List.getElem?_set_self (by simp; omega)
        have wne : ∀ m, m ≠ S.length + 1 → ((V ++ [Cell.lst [eOT.enc (pairOf (tl (tS c)))]]).set (S.length + 1) (.lst ([D.ref T.length] ++ [D.ref U.length] ++ [.ref V.length])))[m]? = (V ++ [Cell.lst [eOT.enc (pairOf (tl (tS c)))]])[m]? := fun m hm => List.getElem?_set_ne (by omega)
        have w2 := (wne T.length (by omega)).trans (app_get va)
        have w3 := (wne U.length (by omega)).trans (app_get hV2)
        have w4 := (wne V.length (by omega)).trans get_at
        have wS : ∀ m, m < S.length → ((V ++ [Cell.lst [eOT.enc (pairOf (tl (tS c)))]]).set (S.length + 1) (.lst ([D.ref T.length] ++ [D.ref U.length] ++ [.ref V.length])))[m]? = S[m]? := fun m hm => (wne m (by omega)).trans ((List.getElem?_append_left (by omega)).trans (vS m hm))
        have wl : S.length ≤ ((V ++ [Cell.lst [eOT.enc (pairOf (tl (tS c)))]]).set (S.length + 1) (.lst ([D.ref T.length] ++ [D.ref U.length] ++ [.ref V.length]))).length := by simp; omega
        generalize ((V ++ [Cell.lst [eOT.enc (pairOf (tl (tS c)))]]).set (S.length + 1) (.lst ([D.ref T.length] ++ [D.ref U.length] ++ [.ref V.length]))) = W at *
        rw [tl_tS] at w4
        have no : (areaOf a = none ∨ areaOf b = none ∨ pairOf c = none) → RetQ S.length Q .non W := fun h => ret_keep hS wl wS (by simp only [Cl]) (hn (no3 h))
        refine ⟨_, w1, _, rfl, in_none (e := ePl) (h1 := _) (h2 := _) w2 fun k ha => ?_⟩
        cases k with
        | true =>
          have ha := ha.mp rfl
          simp -implicitDefEqProofs
          exact no (.inl (by rw [hoa]; exact mapO_none.mpr ha))
        | false =>
        have ha : ¬ none ∈ wa.map placeOf := fun h => by have := ha.mpr h; cases this
        simp -implicitDefEqProofs [w1]
        refine ⟨_, rfl, in_none (e := ePl) (h1 := _) (h2 := _) w3 fun k hb => ?_⟩
        cases k with
        | true =>
          have hb := hb.mp rfl
          simp -implicitDefEqProofs
          exact no (.inr (.inl (by rw [hob]; exact mapO_none.mpr hb)))
        | false =>
        have hb : ¬ none ∈ wb.map placeOf := fun h => by have := hb.mpr h; cases this
        simp -implicitDefEqProofs [w1]
        refine ⟨_, rfl, in_none (e := eTh) (h1 := fun a => by simp [eTh, PyData.eqv]) (h2 := fun a => by simp [eTh, PyData.eqv]) (xs := [pairOf c]) w4 fun k hk => ?_⟩
        have hk : k = true ↔ pairOf c = none := by
          rw [hk, List.mem_singleton]
          exact ⟨fun e => e.symm, fun e => e.symm⟩
        cases hc : pairOf c with
        | none =>
          rw [hk.mpr hc]
          simp -implicitDefEqProofs
          exact no (.inr (.inr hc))
        | some t =>
          have hk : k = false := by
            cases k with
            | false => rfl
            | true => rw [hk.mp rfl] at hc; cases hc
          rw [hk]
          simp -implicitDefEqProofs
          obtain ⟨p, hp⟩ : ∃ p, mapO placeOf wa = some p := by
            cases e : mapO placeOf wa with
            | none => exact absurd (mapO_none.mp e) ha
            | some p => exact ⟨p, rfl⟩
          obtain ⟨q, hq⟩ : ∃ q, mapO placeOf wb = some q := by
            cases e : mapO placeOf wb with
            | none => exact absurd (mapO_none.mp e) hb
            | some p => exact ⟨p, rfl⟩
          have enc : ∀ l : List Pl, (l.map some).map eOP.enc = l.map ePl.enc := fun l => by rw [List.map_map]; rfl
          rw [mapO_map hp, enc] at w2
          rw [mapO_map hq, enc] at w3
          rw [hc] at w4
          have hy := hy ⟨p, q, [some t]⟩ (by simp only [hoa, hob, hc, hp, hq])
          exact ret_disk (d := ⟨p, q, [some t]⟩) hS wS w1 w2 w3 w4 (by simp; omega) (by simp; omega) hy
    · refine .inr ⟨by omega, ret_pure hS (by simp only [Cl]) (hn ?_)⟩
      match ws, h2 with
      | [], _ => rfl
      | [a], _ => rfl
      | [a, b], _ => rfl
      | [a, b, c], h => exact absurd rfl h
      | a :: b :: c :: e :: r, _ => rfl
  · exact h.elim
theorem sum_len (k : Nat) : ∀ {ps : List Str}, (∀ p ∈ ps, p.length ≤ k) → (ps.map (·.length)).sum ≤ ps.length * k
  | [], _ => by simp
  | p :: r, h => by
    have h1 := h p (by simp)
    have h2 := sum_len k (ps := r) fun q hq => h q (List.mem_cons_of_mem _ hq)
    simp only [List.map_cons, List.sum_cons, List.length_cons, Nat.add_mul, Nat.one_mul]
    omega
theorem join_len {y : Str} {k : Nat} {ps : List Str} (h : ∀ p ∈ ps, p.length ≤ k) : (Txt.join y ps).length ≤ ps.length * (k + y.length) := by
  have e : ps = (ps.map tl).map tS := by rw [List.map_map]; simp [Function.comp_def, tS_tl]
  have h2 := joinL_len (S := tl y) (k := k) (l := ps.map tl) fun p hp => by
    obtain ⟨q, hq, rfl⟩ := List.mem_map.mp hp
    rw [← len_tl]; exact h q hq
  rw [e, join_tS, tS_len, len_tl y]
  simpa using h2
theorem map_eraseIdx {α β : Type} (f : α → β) : ∀ (l : List α) (k : Nat), (l.map f).eraseIdx k = (l.eraseIdx k).map f
  | [], _ => rfl
  | _ :: _, 0 => rfl
  | a :: l, k + 1 => by
    rw [List.map_cons, List.eraseIdx_cons_succ, List.eraseIdx_cons_succ, map_eraseIdx f l k]; rfl
theorem at0 (p : Str) (r : List Str) : atI ((p :: r).map D.str) 0 = some (.str p) := by
  show atI (D.str p :: r.map D.str) 0 = some (.str p)
  unfold atI ixN
  rw [if_pos (by omega), if_pos (by simp)]
  rfl
theorem ob_law_text : Ob n_law_text sp_law_text w_law_text := by
  intro ds S Q E hS hd h
  unfold sp_law_text at h
  split at h
  · rename_i c
    have hzz : 1000 ≤ sizeLine := by decide
    have l3 : (" / " : Str).length = 3 := by decide +kernel
    have l1 : (" " : Str).length = 1 := by decide +kernel
    have lc : ("," : Str).length = 1 := by decide +kernel
    have ld : ("." : Str).length = 1 := by decide +kernel
    have h4 : ∀ (U : Store) (ps : List Str) (y2 y3 y4 y5 y6 : Option D) (w : Int), U[S.length]? = some (.lst (ps.map .str)) → (∀ p ∈ ps, p.length ≤ 40) → ps.length ≤ 4 → (∀ m, m < S.length → U[m]? = S[m]?) →
        w_law_text_r4 [some (.int c), some (.ref S.length), y2, y3, y4, y5, y6, some (.int w)] U ⟨fun _ S' => RetQ S.length Q .non S', RetQ S.length Q⟩ (fun c x S' => RetE S.length E c S') := by
      intro U ps y2 y3 y4 y5 y6 w hU hp hl hk
      have hUl : S.length < U.length := (List.getElem?_eq_some_iff.mp hU).1
      have s1 := sum_len 40 hp
      simp -implicitDefEqProofs [w_law_text_r4, hU]
      by_cases hw : w = 2
      · refine .inr ⟨hw, ps.reverse, ?_, by rw [List.map_reverse, List.sum_reverse, List.length_reverse, l3]; omega, ?_⟩
        · rw [← List.map_reverse]
        · have := join_len (y := (" / " : Str)) (ps := ps.reverse) (k := 40) fun p hm => hp p (List.mem_reverse.mp hm)
          rw [List.length_reverse, l3] at this
          exact ret_keep hS (by simp; omega) (fun m hm => (List.getElem?_append_left (by omega)).trans (hk m hm)) (by simp only [Cl]) (h _ (by omega))
      · refine .inl ⟨hw, ps, rfl, by rw [l3]; omega, ?_⟩
        have := join_len (y := (" / " : Str)) (ps := ps) (k := 40) hp
        rw [l3] at this
        exact ret_keep hS (by omega) hk (by simp only [Cl]) (h _ (by omega))
    have h5 : ∀ (U : Store) (ps : List Str) (y2 y3 y4 y5 y6 : Option D) (w : Int), U[S.length]? = some (.lst (ps.map .str)) → (∀ p ∈ ps, p.length ≤ 40) → ps.length ≤ 3 → 1 ≤ ps.length → (∀ m, m < S.length → U[m]? = S[m]?) →
        w_law_text_r5 [some (.int c), some (.ref S.length), y2, y3, y4, y5, y6, some (.int w)] U ⟨fun _ S' => RetQ S.length Q .non S', RetQ S.length Q⟩ (fun c x S' => RetE S.length E c S') := by
      intro U ps y2 y3 y4 y5 y6 w hU hp hl hl1 hk
      have hUl : S.length < U.length := (List.getElem?_eq_some_iff.mp hU).1
      simp -implicitDefEqProofs [w_law_text_r5, hU]
      by_cases hw : w = 1
      · obtain ⟨p, r, rfl⟩ : ∃ p r, ps = p :: r := by
          cases ps with
          | nil => simp at hl1
          | cons p r => exact ⟨p, r, rfl⟩
        refine .inr ⟨hw, isT_list hU, .str p, at0 p r, by simp at hl ⊢; omega, ⟨by omega, by omega⟩, ?_⟩
        refine h4 _ ((p :: r).take (c / 300 % 4).toNat ++ [p] ++ (p :: r).drop (c / 300 % 4).toNat) _ _ _ _ _ _ ?_ (fun q hq => ?_) ?_ (fun m hm => (List.getElem?_set_ne (by omega)).trans (hk m hm))
        · rw [List.getElem?_set_self hUl]
          simp [List.map_take, List.map_drop]
        · rcases List.mem_append.mp hq with hq | hq
          · rcases List.mem_append.mp hq with hq | hq
            · exact hp q (List.mem_of_mem_take hq)
            · rw [List.mem_singleton.mp hq]; exact hp p (by simp)
          · exact hp q (List.mem_of_mem_drop hq)
        · rw [List.length_append, List.length_append, List.length_take, List.length_drop, List.length_singleton]
          omega
      · exact .inl ⟨hw, h4 _ ps _ _ _ _ _ _ hU hp (by omega) hk⟩
    have h6 : ∀ (U : Store) (ps : List Str) (y2 y3 y4 y5 y6 : Option D) (w : Int), U[S.length]? = some (.lst (ps.map .str)) → (∀ p ∈ ps, p.length ≤ 40) → ps.length = 3 → (∀ m, m < S.length → U[m]? = S[m]?) →
        w_law_text_r6 [some (.int c), some (.ref S.length), y2, y3, y4, y5, y6, some (.int w)] U ⟨fun _ S' => RetQ S.length Q .non S', RetQ S.length Q⟩ (fun c x S' => RetE S.length E c S') := by
      intro U ps y2 y3 y4 y5 y6 w hU hp hl hk
      have hUl : S.length < U.length := (List.getElem?_eq_some_iff.mp hU).1
      simp -implicitDefEqProofs [w_law_text_r6, hU]
      by_cases hw : w = 0
      · have hs : seqIndex? (c / 300 % 3) ps.length = some (c / 300 % 3).toNat := seqIx (by omega) (by omega)
        obtain ⟨q, hq⟩ : ∃ q, ps[(c / 300 % 3).toNat]? = some q := ⟨_, List.getElem?_eq_getElem (by omega)⟩
        refine .inr ⟨hw, isT_list hU, by omega, by omega, .str q, _, hs, ⟨q, hq, rfl⟩, ?_⟩
        refine h5 _ (ps.eraseIdx (c / 300 % 3).toNat) _ _ _ _ _ _ ?_ (fun p hm => hp p (List.mem_of_mem_eraseIdx hm)) ?_ ?_ (fun m hm => (List.getElem?_set_ne (by omega)).trans (hk m hm))
        · rw [List.getElem?_set_self hUl, map_eraseIdx]
        · rw [List.length_eraseIdx]; split <;> omega
        · rw [List.length_eraseIdx]; split <;> omega
      · exact .inl ⟨hw, h5 _ ps _ _ _ _ _ _ hU hp (by omega) (by omega) hk⟩
    have part : ∀ (U : Store) (ps : List Str) (k : Int) (y3 y4 y5 y6 y7 : Option D) (N : DEnv → Store → Prop), (0 ≤ k ∧ k ≤ 2) → U[S.length]? = some (.lst (ps.map .str)) → ps.length ≤ 3 →
        (∀ y3 y4 y5 y6 U' q, U'[S.length]? = some (.lst ((ps ++ [q]).map .str)) → q.length ≤ 40 → (∀ m, m < S.length → U'[m]? = U[m]?) → N [some (.int c), some (.ref S.length), some (.int k), y3, y4, y5, y6, y7] U') →
        (wsSeq (wsSet 3 (wLst [])) (wsSeq (wsForR1 (tN 4) (wOp pAdd (ret (D.int 1)) (wOp pMod (wOp pDiv (wCall sp_law_mixed [wVar 0, wVar 2] []) (ret (D.int 3))) (ret (D.int 5))))
          (wsSeq (wsSet 5 (wCall sp_law_mixed [wVar 0, wOp pAdd (wOp pAdd (ret (D.int 10)) (wOp pMul (ret (D.int 9)) (wVar 2))) (wVar 4)] [])) w_law_text_r2)) w_law_text_r3))
          [some (.int c), some (.ref S.length), some (.int k), y3, y4, y5, y6, y7] U ⟨N, RetQ S.length Q⟩ (fun c x S' => RetE S.length E c S') := by
      intro U ps k y3 y4 y5 y6 y7 N hk hU hl hN
      have hUl : S.length < U.length := (List.getElem?_eq_some_iff.mp hU).1
      simp -implicitDefEqProofs [sp_law_mixed]
      intro n n0 n1
      have hlo : (U ++ [Cell.lst []])[U.length]? = some (.lst []) := get_at
      have hlk : ∀ m, m < U.length → (U ++ [Cell.lst []])[m]? = U[m]? := fun m hm => List.getElem?_append_left hm
      generalize U ++ [Cell.lst []] = U1 at *
      refine ⟨by omega, by omega, loop_range (fun i ρ U' => (∃ y4 y5 y6, ρ = [some (.int c), some (.ref S.length), some (.int k), some (.ref U.length), y4, y5, y6, y7]) ∧ (∃ wl : List Str, U'[U.length]? = some (.lst (wl.map .str)) ∧ wl.length = i ∧ ∀ p ∈ wl, p.length ≤ 7) ∧
        (∀ m, m < U.length → U'[m]? = U[m]?)) ⟨⟨_, _, _, rfl⟩, ⟨[], hlo, rfl, by simp⟩, hlk⟩ ?_ ?_⟩
      · rintro i ρ U' N' hi ⟨⟨y4', y5', y6', rfl⟩, ⟨wl, hw, hwl, hwp⟩, hu⟩ hN'
        have hnx : ∀ q y4 y5 y6 G, q.length ≤ 7 → N' [some (.int c), some (.ref S.length), some (.int k), some (.ref U.length), y4, y5, y6, y7] ((U' ++ G).set U.length (.lst (wl.map .str ++ [.str q]))) := fun q y4 y5 y6 G hq => by
          have hU'l : U.length < U'.length := (List.getElem?_eq_some_iff.mp hw).1
          refine hN' _ _ ⟨⟨_, _, _, rfl⟩, ⟨wl ++ [q], ?_, by simp [hwl], fun p hp => ?_⟩, fun m hm => ?_⟩
          · rw [List.getElem?_set_self (by simp; omega)]; simp
          · rcases List.mem_append.mp hp with hp | hp
            · exact hwp p hp
            · rw [List.mem_singleton.mp hp]; exact hq
          · exact (List.getElem?_set_ne (by omega)).trans ((List.getElem?_append_left (by omega)).trans (hu m hm))
        have hwz : (wl.map D.str).length < sizeLine := by simp; omega
        generalize wl.map D.str = ws at *
        simp -implicitDefEqProofs [sp_law_mixed]
        intro v v0 v1
        unfold w_law_text_r2 w_law_text_r1
        simp -implicitDefEqProofs [-Int.toString_eq_repr]
        have b1 : (v / 4 % 30 - 9 : Int).natAbs < 10 ^ 2 := by omega
        have b2 : (v / 120 % 11 : Int).natAbs < 10 ^ 2 := by omega
        have e1 : (Str.ofString (toString (v / 4 % 30 - 9 : Int))).length ≤ 3 := by
          rw [len_tl, tl_str]; exact strI_len (by decide) b1
        have e2 : (Str.ofString (toString (v / 120 % 11 : Int))).length ≤ 3 := by
          rw [len_tl, tl_str]; exact strI_len (by decide) b2
        generalize Str.ofString (toString (v / 4 % 30 - 9 : Int)) = s1 at *
        generalize Str.ofString (toString (v / 120 % 11 : Int)) = s2 at *
        refine ⟨log60 (by decide) b1, by rw [lc]; omega, log60 (by decide) b2, by rw [Str.length_append, lc]; omega, isT_list hw, ?_⟩
        by_cases h1 : 1 < v % 4
        · rw [if_pos h1]
          exact ⟨_, rfl, ws, app_get hw, hwz, hnx _ _ _ _ _ (by rw [Str.length_append, Str.length_append, lc]; omega)⟩
        · rw [if_neg h1]
          exact ⟨_, rfl, ws, app_get hw, hwz, hnx _ _ _ _ _ (by rw [ld]; omega)⟩
      · rintro ρ U' ⟨⟨y4', y5', y6', rfl⟩, ⟨wl, hw, hwl, hwp⟩, hu⟩
        simp -implicitDefEqProofs [w_law_text_r3]
        have hk := (hu _ hUl).trans hU
        have s1 := sum_len 7 hwp
        have j1 := join_len (y := (" " : Str)) hwp
        rw [l1] at j1
        have hU'l : U.length < U'.length := (List.getElem?_eq_some_iff.mp hw).1
        refine ⟨isT_list hk, wl, hw, by rw [l1]; omega, _, hk, by simp; omega, hN _ _ _ _ _ (Txt.join (" " : Str) wl) ?_ (by omega) fun m hm => ?_⟩
        · rw [List.getElem?_set_self (by omega)]; simp
        · exact (List.getElem?_set_ne (by omega)).trans (hu m (by omega))
    simp -implicitDefEqProofs [w_law_text, startD]
    have hr : rangeD 0 2 = [.int 0, .int 1] := rfl
    rw [hr]
    have hS0 : (S ++ [Cell.lst []])[S.length]? = some (.lst (([] : List Str).map .str)) := get_at
    have hSk : ∀ m, m < S.length → (S ++ [Cell.lst []])[m]? = S[m]? := fun m hm => List.getElem?_append_left hm
    generalize S ++ [Cell.lst []] = U0 at *
    refine ⟨trivial, part _ [] 0 _ _ _ _ _ _ (by omega) hS0 (by simp) fun y3 y4 y5 y6 U q hU hq hk => ⟨trivial, part _ [q] 1 _ _ _ _ _ _ (by omega) hU (by simp) fun z3 z4 z5 z6 V p hV hp hk2 => ⟨trivial, ?_⟩⟩⟩
    have hVl : S.length < V.length := (List.getElem?_eq_some_iff.mp hV).1
    unfold w_law_text_r7
    simp -implicitDefEqProofs [-Int.toString_eq_repr, hV]
    have b1 : (c / 3 % 2 : Int).natAbs < 10 ^ 2 := by omega
    have b2 : (c / 6 % 3 : Int).natAbs < 10 ^ 2 := by omega
    have e1 : (Str.ofString (toString (c / 3 % 2 : Int))).length ≤ 3 := by
      rw [len_tl, tl_str]; exact strI_len (by decide) b1
    have e2 : (Str.ofString (toString (c / 6 % 3 : Int))).length ≤ 3 := by
      rw [len_tl, tl_str]; exact strI_len (by decide) b2
    generalize Str.ofString (toString (c / 3 % 2 : Int)) = s1 at *
    generalize Str.ofString (toString (c / 6 % 3 : Int)) = s2 at *
    refine ⟨isT_list hV, log60 (by decide) b1, by rw [lc]; omega, log60 (by decide) b2, by rw [Str.length_append, lc]; omega, by omega, ?_⟩
    refine h6 _ [q, p, s1 ++ ("," : Str) ++ s2] _ _ _ _ _ _ (by rw [List.getElem?_set_self hVl]; rfl) (fun r hr => ?_) rfl (fun m hm => (List.getElem?_set_ne (by omega)).trans ((hk2 m hm).trans ((hk m hm).trans (hSk m hm))))
    simp only [List.mem_cons, List.not_mem_nil, or_false] at hr
    rcases hr with rfl | rfl | rfl
    · exact hq
    · exact hp
    · rw [Str.length_append, Str.length_append, lc]; omega
  · exact h.elim
theorem eq_dk {S : Store} {ρ : DEnv} {Q : PQ} {E : PX} {i j : Nat} {d : Dk} (h : DkAt S i d) (h2 : DkAt S j d) (q : Q (.bl true) S) : pEq (.ref i) (.ref j) ρ S Q E :=
  pEq_gen ⟨_, _, dpy_dk h, dpy_dk h2, shaped_dk d, shaped_dk d, by simpa [PyData.eqv, PyData.eqvAll, eqvAll_map] using q⟩
theorem read_noD {d : D} {S : Store} {Q : PQ} {E : Str → Store → Prop} (hd : ∀ x, d = .str x → False) (h : (∃ a, tyName S d = some a ∧ a ≠ "str") ∧ E "NoText" S) : sp_read_disk [d] S Q E := by
  cases d with
  | str x => exact (hd x rfl).elim
  | _ => exact h
theorem ob_law_right : Ob n_law_right sp_law_right w_law_right := by
  intro ds S Q E hS hd h
  unfold sp_law_right at h
  split at h
  · rename_i x k
    obtain ⟨hz, d, hdk, hx, hq⟩ := h
    simp -implicitDefEqProofs [-List.append_assoc, -List.length_append, w_law_right, startD]
    refine ⟨hz, fun d2 hd2 => ?_, fun hn => by rw [hx] at hn; cases hn⟩
    have e : d2 = d := by rw [hx] at hd2; exact (Option.some.inj hd2).symm
    subst e
    have n1 : DkAt (S ++ [Cell.lst []] ++ dkC (S ++ [Cell.lst []]).length d2) ((S ++ [Cell.lst []]).length + 3) d2 := ⟨_, _, _, (atn 3).trans rfl, (atn 0).trans rfl, (atn 1).trans rfl, (atn 2).trans rfl⟩
    refine .inl ⟨rfl, eq_list eBool (xs := []) (ys := []) (app_get (app_get get_at)) get_at ?_⟩
    simp -implicitDefEqProofs [-List.append_assoc, -List.length_append]
    refine eq_dk n1.app hdk.app.app.app ?_
    rw [List.append_assoc, List.append_assoc]
    exact ret_pure hS (by simp only [Cl]) hq
  · rename_i x
    obtain ⟨hz, hx, hq⟩ := h
    simp -implicitDefEqProofs [-List.append_assoc, -List.length_append, w_law_right, startD]
    refine ⟨hz, fun d2 hd2 => (by rw [hx] at hd2; cases hd2), fun _ => ⟨rfl, isT_list get_at, by decide, .inr ⟨rfl, ?_⟩⟩⟩
    rw [xN1, xN2, xN3, xN4, xN5, xN6]
    refine eq_list eBool (xs := [true, false, true]) (ys := [true, false, true]) (app_get get_at) get_at ?_
    rw [List.append_assoc, List.append_assoc]
    exact ret_pure hS (by simp only [Cl]) hq
  · rename_i d hno
    obtain ⟨⟨a, ha, hne⟩, hq⟩ := h
    simp -implicitDefEqProofs [-List.append_assoc, -List.length_append, w_law_right, startD]
    refine read_noD hno ⟨⟨a, ha _, hne⟩, rfl, isT_list get_at, by decide, .inr ⟨rfl, ?_⟩⟩
    rw [xN1, xN2, xN3, xN4, xN5, xN6]
    refine eq_list eBool (xs := [true, false, true]) (ys := [true, false, true]) (app_get get_at) get_at ?_
    rw [List.append_assoc, List.append_assoc]
    exact ret_pure hS (by simp only [Cl]) hq
  · exact h.elim
theorem right_str {x : Str} {S : Store} {Q : PQ} {E : Str → Store → Prop} (h : diskOf (tl x) = none) (hl : x.length ≤ 1000000) (hq : Q (.bl true) S) : sp_law_right [.str x, .non] S Q E := ⟨hl, h, hq⟩
theorem right_no {d : D} {a : String} {S : Store} {Q : PQ} {E : Str → Store → Prop} (ha : ∀ G, tyName (S ++ G) d = some a) (hne : a ≠ "str") (hq : Q (.bl true) S) : sp_law_right [d, .non] S Q E := by
  cases d with
  | str x => exact absurd (Option.some.inj (ha [])).symm hne
  | _ => exact ⟨⟨a, ha, hne⟩, hq⟩
theorem ob_law : Ob n_law spLaw w_law := by
  intro ds S Q E hS hd ⟨ns, e, hl, e2, hq⟩
  subst e e2
  simp -implicitDefEqProofs [w_law, startD, atL]
  have hz : ns.length ≤ sizeLine := Nat.le_trans hl (by decide)
  have hz3 : (cutD (ns.map D.int) none (some 15)).length ≤ ns.length := by simpa using cutD_length (ns.map D.int) none (some 15)
  have hz4 : (64 : Nat) ≤ sizeLine := by decide
  refine ⟨hz, by omega, comp_spread rfl (by simp) (ints_cons ints_cut) fun cs _ hc => ⟨_, rfl, _, rfl, ?_⟩⟩
  refine loop_list (fun i ρ S => S[3]? = some (.lst (cs.map .int)) ∧ ∃ a b c d, ρ = [some (.rol (ns.map D.int)), a, b, c, d]) ⟨rfl, _, _, _, _, rfl⟩ (fun _ _ _ h => h.1) ?_ ?_
  · rintro i x ρ S N hx ⟨hS3, y1, y2, y3, y4, rfl⟩ hN
    obtain ⟨c, hcm, rfl⟩ := List.mem_map.mp (List.mem_of_getElem? hx)
    clear hS hd hx
    simp -implicitDefEqProofs [sp_law_text, sp_law_spoilt]
    intro x hx
    refine ⟨by omega, fun y hy => ?_⟩
    unfold w_law_r4
    simp -implicitDefEqProofs
    have odd : ∀ (U : Store) (y4 : Option D), U[3]? = some (.lst (cs.map .int)) → w_law_r3 [some (.rol (ns.map D.int)), some (.int c), y2, some (.str y), y4] U ⟨N, RetQ 0 Q⟩ (fun c x S' => RetE 0 E c S') := by
      intro U y4 hU3
      unfold w_law_r3 w_law_r2 w_law_r1
      simp -implicitDefEqProofs
      have aq : ∀ {X : Store} (k : Nat) {c : Cell}, X[k]? = some c → (U ++ X)[U.length + k]? = some c := fun {X} k {c} h => (atn k).trans h
      have fin : ∀ G y4, N [some (.rol (ns.map D.int)), some (.int c), y2, some (.str y), y4] (U ++ G) := fun G y4 => hN _ _ ⟨app_get hU3, _, _, _, _, rfl⟩
      refine ⟨_, (List.getElem?_eq_some_iff.mp (aq 6 rfl)).2, by simp only [List.length_cons, List.length_nil]; omega, ?_⟩
      have rs : ∀ {G : Store} {z : Str} (y4 : Option D), diskOf (tl z) = none → z.length ≤ 1000000 → sp_law_right [.str z, .non] (U ++ G) (fun d S1 => pB (fun c => ret (D.bl !c)) d [some (.rol (ns.map D.int)), some (.int c), y2, some (.str y), y4] S1 (fun d S1 => d = D.bl false ∧ N [some (.rol (ns.map D.int)), some (.int c), y2, some (.str y), y4] S1 ∨ d = D.bl true ∧ RetQ 0 Q (D.bl false) S1) fun c x S' => RetE 0 E c S') (fun c S2 => RetE 0 E c S2) :=
        fun y4 h1 h2 => right_str h1 h2 (.inl ⟨rfl, fin _ _⟩)
      have h15 : c / 9 % 15 = 0 ∨ c / 9 % 15 = 1 ∨ c / 9 % 15 = 2 ∨ c / 9 % 15 = 3 ∨ c / 9 % 15 = 4 ∨ c / 9 % 15 = 5 ∨ c / 9 % 15 = 6 ∨ c / 9 % 15 = 7 ∨ c / 9 % 15 = 8 ∨ c / 9 % 15 = 9 ∨ c / 9 % 15 = 10 ∨ c / 9 % 15 = 11 ∨ c / 9 % 15 = 12 ∨ c / 9 % 15 = 13 ∨ c / 9 % 15 = 14 := by omega
      rcases h15 with e | e | e | e | e | e | e | e | e | e | e | e | e | e | e <;> rw [e]
      · exact ⟨_, rfl, rs _ (by decide +kernel) (by decide +kernel)⟩
      · exact ⟨_, rfl, rs _ (by decide +kernel) (by decide +kernel)⟩
      · exact ⟨_, rfl, rs _ (by decide +kernel) (by decide +kernel)⟩
      · exact ⟨_, rfl, rs _ (by decide +kernel) (by decide +kernel)⟩
      · exact ⟨_, rfl, rs _ (by decide +kernel) (by decide +kernel)⟩
      · exact ⟨_, rfl, rs _ (by decide +kernel) (by decide +kernel)⟩
      · exact ⟨_, rfl, rs _ (by decide +kernel) (by decide +kernel)⟩
      · exact ⟨_, rfl, rs _ (by decide +kernel) (by decide +kernel)⟩
      · exact ⟨_, rfl, rs _ (by decide +kernel) (by decide +kernel)⟩
      · exact ⟨_, rfl, right_no (a := "NoneType") (fun G => rfl) (by decide) (.inl ⟨rfl, fin _ _⟩)⟩
      · exact ⟨_, rfl, right_no (a := "int") (fun G => rfl) (by decide) (.inl ⟨rfl, fin _ _⟩)⟩
      · exact ⟨_, rfl, right_no (a := "bool") (fun G => rfl) (by decide) (.inl ⟨rfl, fin _ _⟩)⟩
      · exact ⟨_, rfl, right_no (a := "list") (fun G => e_ty5 (app_get (aq 1 rfl))) (by decide) (.inl ⟨rfl, fin _ _⟩)⟩
      · exact ⟨_, rfl, right_no (a := "tuple") (fun G => rfl) (by decide) (.inl ⟨rfl, fin _ _⟩)⟩
      · exact ⟨_, rfl, right_no (a := "list") (fun G => e_ty5 (app_get (aq 5 rfl))) (by decide) (.inl ⟨rfl, fin _ _⟩)⟩
    refine ⟨by omega, fun d hd => ?_, fun hn => right_str hn (by omega) (.inl ⟨rfl, odd _ _ hS3⟩)⟩
    exact ⟨by omega, d, ⟨_, _, _, (atn 3).trans rfl, (atn 0).trans rfl, (atn 1).trans rfl, (atn 2).trans rfl⟩, hd, .inl ⟨rfl, odd _ _ (app_get hS3)⟩⟩
  · rintro ρ S ⟨hS5, _⟩
    exact .inr ⟨[], _, Gc.drop (S0 := []) rfl hS (by simp only [Cl]), hq⟩
/-! ### the text -/
def topS (i : Nat) : Stmt := PySem.Challenge.pw_gapshelf_k38_odd_disk_texts.main.body.getD i (.Pass ⟨0, 0, 0, 0⟩)
abbrev sread_number : Stmt := topS 10
theorem scread_number : FnScope n_read_number ["text"] (defScope sread_number) := ⟨rfl, rfl, rfl, by decide +kernel, rfl, by decide +kernel, by decide +kernel⟩
abbrev sread_pair : Stmt := topS 11
theorem scread_pair : FnScope n_read_pair ["text"] (defScope sread_pair) := ⟨rfl, rfl, rfl, by decide +kernel, rfl, by decide +kernel, by decide +kernel⟩
abbrev sread_place : Stmt := topS 12
theorem scread_place : FnScope n_read_place ["text"] (defScope sread_place) := ⟨rfl, rfl, rfl, by decide +kernel, rfl, by decide +kernel, by decide +kernel⟩
abbrev sread_disk : Stmt := topS 13
theorem scread_disk : FnScope n_read_disk ["text"] (defScope sread_disk) := ⟨rfl, rfl, rfl, by decide +kernel, rfl, by decide +kernel, by decide +kernel⟩
abbrev s_law_spread : Stmt := topS 15
theorem sc_law_spread : FnScope n_law_spread ["cell"] (defScope s_law_spread) := ⟨rfl, rfl, rfl, by decide +kernel, rfl, by decide +kernel, by decide +kernel⟩
abbrev s_law_mixed : Stmt := topS 16
theorem sc_law_mixed : FnScope n_law_mixed ["cell", "k"] (defScope s_law_mixed) := ⟨rfl, rfl, rfl, by decide +kernel, rfl, by decide +kernel, by decide +kernel⟩
abbrev s_law_number : Stmt := topS 17
theorem sc_law_number : FnScope n_law_number ["text"] (defScope s_law_number) := ⟨rfl, rfl, rfl, by decide +kernel, rfl, by decide +kernel, by decide +kernel⟩
abbrev s_law_pair : Stmt := topS 18
theorem sc_law_pair : FnScope n_law_pair ["word"] (defScope s_law_pair) := ⟨rfl, rfl, rfl, by decide +kernel, rfl, by decide +kernel, by decide +kernel⟩
abbrev s_law_due : Stmt := topS 19
theorem sc_law_due : FnScope n_law_due ["text"] (defScope s_law_due) := ⟨rfl, rfl, rfl, by decide +kernel, rfl, by decide +kernel, by decide +kernel⟩
abbrev s_law_text : Stmt := topS 20
theorem sc_law_text : FnScope n_law_text ["cell"] (defScope s_law_text) := ⟨rfl, rfl, rfl, by decide +kernel, rfl, by decide +kernel, by decide +kernel⟩
abbrev s_law_spoilt : Stmt := topS 21
theorem sc_law_spoilt : FnScope n_law_spoilt ["text", "cell"] (defScope s_law_spoilt) := ⟨rfl, rfl, rfl, by decide +kernel, rfl, by decide +kernel, by decide +kernel⟩
abbrev s_law_right : Stmt := topS 22
theorem sc_law_right : FnScope n_law_right ["text", "due"] (defScope s_law_right) := ⟨rfl, rfl, rfl, by decide +kernel, rfl, by decide +kernel, by decide +kernel⟩
abbrev slaw : Stmt := topS 23
theorem sclaw : FnScope n_law ["script"] (defScope slaw) := ⟨rfl, rfl, rfl, by decide +kernel, rfl, by decide +kernel, by decide +kernel⟩
section
variable {P : Program} {w : World} {K : PySem.W.Frag} {mg : Str → Option Value} {base : Heap}
theorem calread_number {f : Addr} {fd : FuncData} (B : Bi mg) (F : Fun K "read_number" "read_number" sread_number f fd) (hm : mg "read_number" = some (.ref f)) (b : Binds K fd ["text"] []) (gFIGURES : ∃ u, mg "FIGURES" = some u ∧ RelV (V.str "0123456789") u) (xNoText : Xc K mg "NoText") :
    Cal P w K mg base "read_number" 1 ["text"] sp_read_number :=
  cal_ok F hm scread_number b w_read_number len_read_number (fun cdv A outer s H E hr =>
    ss_cons (ss_if (st_not (st_val (se_isi (T := "str") (by decide) (by rfl) B.isinstance (by rfl) B.str (by decide +kernel) (se_var 0)))) (ss_one (ss_raise rfl tk_def xNoText (by rfl))) (ss_nil))
    (ss_cons (ss_set (i := 1) scread_number.nd rfl (by first | exact Or.inl rfl | exact Or.inr rfl) (se_var 0))
    (ss_cons (ss_if (st_eq hr.units (se_sl (se_var 0) .none (.some (se_int))) (se_str)) (ss_one (ss_set (i := 1) scread_number.nd rfl (by first | exact Or.inl rfl | exact Or.inr rfl) (se_sl (se_var 0) (.some (se_int)) .none))) (ss_nil))
    (ss_cons (ss_if ((st_or (st_lt (se_callB call_len pb_len (by rfl) B.len (by decide +kernel) (sa_cons (se_var 1) (sa_nil))) (se_int)) (st_one (st_gt (se_callB call_len pb_len (by rfl) B.len (by decide +kernel) (sa_cons (se_var 1) (sa_nil))) (se_int)))).pt) (ss_one (ss_raise rfl tk_def xNoText (by rfl))) (ss_nil))
    (ss_cons (ss_forS hp_def rfl (sg_name (i := 2) scread_number.nd rfl (by first | exact Or.inl rfl | exact Or.inr rfl)) (se_var 1) (ss_one (ss_if (st_notinStr trivial (se_var 2) (se_gstr (by rfl) gFIGURES)) (ss_one (ss_raise rfl tk_def xNoText (by rfl))) (ss_nil))))
    (ss_cons (ss_if ((st_and (st_eq hr.units (se_ix (se_var 1) (se_int) (fun _ _ => rfl)) (se_str)) (st_one (st_ne hr.units (se_var 0) (se_str)))).pt) (ss_one (ss_raise rfl tk_def xNoText (by rfl))) (ss_nil))
    (ss_one (ss_ret (se_callTy call_int_str pb_intS (by rfl) B.int (by decide +kernel) (sa_cons (se_var 0) (sa_nil))))))))))) ob_read_number
theorem cal_law_spread {f : Addr} {fd : FuncData} (B : Bi mg) (F : Fun K "_law_spread" "_law_spread" s_law_spread f fd) (hm : mg "_law_spread" = some (.ref f)) (b : Binds K fd ["cell"] []) :
    Cal P w K mg base "_law_spread" 1 ["cell"] sp_law_spread :=
  cal_ok F hm sc_law_spread b w_law_spread len_law_spread (fun cdv A outer s H E hr =>
    ss_cons (ss_set (i := 1) sc_law_spread.nd rfl (by first | exact Or.inl rfl | exact Or.inr rfl) (se_mod (se_mul (se_add (se_mod (se_var 0) (se_int)) (se_int)) (se_int)) (se_int)))
    (ss_one (ss_ret (se_add (se_mod (se_mul (se_var 1) (se_var 1)) (se_int)) (se_mul (se_mod (se_var 0) (se_pow (se_int) (se_int))) (se_int)))))) ob_law_spread
theorem cal_law_mixed {f : Addr} {fd : FuncData} (B : Bi mg) (F : Fun K "_law_mixed" "_law_mixed" s_law_mixed f fd) (hm : mg "_law_mixed" = some (.ref f)) (b : Binds K fd ["cell", "k"] []) :
    Cal P w K mg base "_law_mixed" 1 ["cell", "k"] sp_law_mixed :=
  cal_ok F hm sc_law_mixed b w_law_mixed len_law_mixed (fun cdv A outer s H E hr =>
    ss_cons (ss_set (i := 2) sc_law_mixed.nd rfl (by first | exact Or.inl rfl | exact Or.inr rfl) (se_mod (se_mul (se_add (se_mod (se_var 0) (se_int)) (se_int)) (se_int)) (se_int)))
    (ss_cons (ss_set (i := 2) sc_law_mixed.nd rfl (by first | exact Or.inl rfl | exact Or.inr rfl) (se_mod (se_add (se_add (se_mul (se_var 2) (se_var 2)) (se_mul (se_var 1) (se_int))) (se_int)) (se_int)))
    (ss_one (ss_ret (se_mod (se_mul (se_var 2) (se_var 2)) (se_int)))))) ob_law_mixed
theorem cal_law_number {f : Addr} {fd : FuncData} (B : Bi mg) (F : Fun K "_law_number" "_law_number" s_law_number f fd) (hm : mg "_law_number" = some (.ref f)) (b : Binds K fd ["text"] []) :
    Cal P w K mg base "_law_number" 1 ["text"] sp_law_number :=
  cal_ok F hm sc_law_number b w_law_number len_law_number (fun cdv A outer s H E hr =>
    ss_cons (ss_set (i := 1) sc_law_number.nd rfl (by first | exact Or.inl rfl | exact Or.inr rfl) (se_var 0))
    (ss_cons (ss_if (st_eq hr.units (se_sl (se_var 0) .none (.some (se_int))) (se_str)) (ss_one (ss_set (i := 1) sc_law_number.nd rfl (by first | exact Or.inl rfl | exact Or.inr rfl) (se_sl (se_var 0) (.some (se_int)) .none))) (ss_nil))
    (ss_cons (ss_if ((st_or (st_lt (se_callB call_len pb_len (by rfl) B.len (by decide +kernel) (sa_cons (se_var 1) (sa_nil))) (se_int)) (st_one (st_gt (se_callB call_len pb_len (by rfl) B.len (by decide +kernel) (sa_cons (se_var 1) (sa_nil))) (se_int)))).pt) (ss_one (ss_ret (se_non))) (ss_nil))
    (ss_cons (ss_set (i := 2) sc_law_number.nd rfl (by first | exact Or.inl rfl | exact Or.inr rfl) (se_int))
    (ss_cons (ss_forS hp_def rfl (sg_name (i := 3) sc_law_number.nd rfl (by first | exact Or.inl rfl | exact Or.inr rfl)) (se_var 1) (ss_cons (ss_if (st_lt (se_mStr PySem.F.slot_str_find PySem.F.type_str_find mt_find pm_find (se_str) (se_var 3)) (se_int)) (ss_one (ss_ret (se_non))) (ss_nil))
    (ss_one (ss_set (i := 2) sc_law_number.nd rfl (by first | exact Or.inl rfl | exact Or.inr rfl) (se_add (se_mul (se_var 2) (se_int)) (se_mStr PySem.F.slot_str_find PySem.F.type_str_find mt_find pm_find (se_str) (se_var 3)))))))
    (ss_cons (ss_if ((st_and (st_eq hr.units (se_ix (se_var 1) (se_int) (fun _ _ => rfl)) (se_str)) (st_one (st_ne hr.units (se_var 0) (se_str)))).pt) (ss_one (ss_ret (se_non))) (ss_nil))
    (ss_one (ss_ret (se_ix (se_lst (sa_cons (se_var 2) (sa_cons (se_neg (se_var 2)) (sa_nil)))) (se_callTy call_int1 pb_int (by rfl) B.int (by decide +kernel) (sa_cons (se_ne hr.units (se_var 1) (se_var 0)) (sa_nil))) (fun _ _ => rfl)))))))))) ob_law_number
theorem cal_law_spoilt {f : Addr} {fd : FuncData} (B : Bi mg) (F : Fun K "_law_spoilt" "_law_spoilt" s_law_spoilt f fd) (hm : mg "_law_spoilt" = some (.ref f)) (b : Binds K fd ["text", "cell"] []) :
    Cal P w K mg base "_law_spoilt" 1 ["text", "cell"] sp_law_spoilt :=
  cal_ok F hm sc_law_spoilt b w_law_spoilt len_law_spoilt (fun cdv A outer s H E hr =>
    ss_cons (ss_set (i := 2) sc_law_spoilt.nd rfl (by first | exact Or.inl rfl | exact Or.inr rfl) (se_mod (se_div (se_var 1) (se_int)) (se_add (se_callB call_len pb_len (by rfl) B.len (by decide +kernel) (sa_cons (se_var 0) (sa_nil))) (se_int))))
    (ss_cons (ss_set (i := 3) sc_law_spoilt.nd rfl (by first | exact Or.inl rfl | exact Or.inr rfl) (se_ix (se_str) (se_mod (se_div (se_var 1) (se_int)) (se_int)) (fun _ _ => rfl)))
    (ss_cons (ss_if (st_lt (se_mod (se_var 1) (se_int)) (se_int)) (ss_one (ss_ret (se_var 0))) (ss_nil))
    (ss_cons (ss_if (st_lt (se_mod (se_var 1) (se_int)) (se_int)) (ss_one (ss_ret (se_add (se_add (se_sl (se_var 0) .none (.some (se_var 2))) (se_var 3)) (se_sl (se_var 0) (.some (se_var 2)) .none)))) (ss_nil))
    (ss_cons (ss_if (st_lt (se_mod (se_var 1) (se_int)) (se_int)) (ss_one (ss_ret (se_add (se_add (se_sl (se_var 0) .none (.some (se_var 2))) (se_var 3)) (se_sl (se_var 0) (.some (se_add (se_var 2) (se_int))) .none)))) (ss_nil))
    (ss_one (ss_ret (se_add (se_sl (se_var 0) .none (.some (se_var 2))) (se_sl (se_var 0) (.some (se_add (se_var 2) (se_int))) .none))))))))) ob_law_spoilt
theorem calread_pair {f : Addr} {fd : FuncData} (B : Bi mg) (F : Fun K "read_pair" "read_pair" sread_pair f fd) (hm : mg "read_pair" = some (.ref f)) (b : Binds K fd ["text"] []) (cread_number : Cal P w K mg base "read_number" 1 ["text"] sp_read_number) (xNoText : Xc K mg "NoText") :
    Cal P w K mg base "read_pair" 2 ["text"] sp_read_pair :=
  cal_ok F hm scread_pair b w_read_pair len_read_pair (fun cdv A outer s H E hr =>
    ss_cons (ss_set (i := 1) scread_pair.nd rfl (by first | exact Or.inl rfl | exact Or.inr rfl) (se_mStr PySem.F.slot_str_split PySem.F.type_str_split mt_split pm_split (se_var 0) (se_str)))
    (ss_cons (ss_if (st_ne hr.units (se_callB call_len pb_len (by rfl) B.len (by decide +kernel) (sa_cons (se_var 1) (sa_nil))) (se_int)) (ss_one (ss_raise rfl tk_def xNoText (by rfl))) (ss_nil))
    (ss_one (ss_ret (se_tup (sa_cons (se_callC cread_number hr (by decide) (by rfl) tk_def (sa_cons (se_ix (se_var 1) (se_int) (fun _ _ => rfl)) (sa_nil))) (sa_cons (se_callC cread_number hr (by decide) (by rfl) tk_def (sa_cons (se_ix (se_var 1) (se_int) (fun _ _ => rfl)) (sa_nil))) (sa_nil)))))))) ob_read_pair
theorem cal_law_pair {f : Addr} {fd : FuncData} (B : Bi mg) (F : Fun K "_law_pair" "_law_pair" s_law_pair f fd) (hm : mg "_law_pair" = some (.ref f)) (b : Binds K fd ["word"] []) (c_law_number : Cal P w K mg base "_law_number" 1 ["text"] sp_law_number) :
    Cal P w K mg base "_law_pair" 2 ["word"] sp_law_pair :=
  cal_ok F hm sc_law_pair b w_law_pair len_law_pair (fun cdv A outer s H E hr =>
    ss_cons (ss_setLc (i := 1) rfl sc_law_pair.nd rfl rfl (sw_true rfl rfl rfl (by decide +kernel)) (pi_list (se_mStr PySem.F.slot_str_split PySem.F.type_str_split mt_split pm_split (se_var 0) (se_str))) (blkOk_by (own := [("one", 2)]) (show blkC n_law_pair (defScope s_law_pair) _ _ = true by decide +kernel)) rfl (fun _ _ _ _ _ => pg_name (i := 2) sc_law_pair.nd rfl (by first | exact Or.inl rfl | exact Or.inr rfl)) (lc_go (of_name _ 2)) (fun _ _ _ _ _ => sts_nil) (fun _ _ _ _ _ => se_callC c_law_number hr (by decide) (by rfl) takes0 (sa_cons (se_var 2) (sa_nil))))
    (ss_cons (ss_if ((st_or (st_ne hr.units (se_callB call_len pb_len (by rfl) B.len (by decide +kernel) (sa_cons (se_var 1) (sa_nil))) (se_int)) (st_one (st_inD (hu_of hr) (se_non) (se_var 1)))).pt) (ss_one (ss_ret (se_non))) (ss_nil))
    (ss_one (ss_ret (se_tup (sa_cons (se_ix (se_var 1) (se_int) (fun _ _ => rfl)) (sa_cons (se_ix (se_var 1) (se_int) (fun _ _ => rfl)) (sa_nil)))))))) ob_law_pair
theorem cal_law_text {f : Addr} {fd : FuncData} (B : Bi mg) (F : Fun K "_law_text" "_law_text" s_law_text f fd) (hm : mg "_law_text" = some (.ref f)) (b : Binds K fd ["cell"] []) (c_law_mixed : Cal P w K mg base "_law_mixed" 1 ["cell", "k"] sp_law_mixed) :
    Cal P w K mg base "_law_text" 2 ["cell"] sp_law_text :=
  cal_ok F hm sc_law_text b w_law_text len_law_text (fun cdv A outer s H E hr =>
    ss_cons (ss_set (i := 1) sc_law_text.nd rfl (by first | exact Or.inl rfl | exact Or.inr rfl) (se_lst (sa_nil)))
    (ss_cons (ss_forR1 hp_def rfl (sg_name (i := 2) sc_law_text.nd rfl (by first | exact Or.inl rfl | exact Or.inr rfl)) (by rfl) B.range (se_int) (ss_cons (ss_set (i := 3) sc_law_text.nd rfl (by first | exact Or.inl rfl | exact Or.inr rfl) (se_lst (sa_nil)))
    (ss_cons (ss_forR1 hp_def rfl (sg_name (i := 4) sc_law_text.nd rfl (by first | exact Or.inl rfl | exact Or.inr rfl)) (by rfl) B.range (se_add (se_int) (se_mod (se_div (se_callC c_law_mixed hr (by decide) (by rfl) tk_def (sa_cons (se_var 0) (sa_cons (se_var 2) (sa_nil)))) (se_int)) (se_int))) (ss_cons (ss_set (i := 5) sc_law_text.nd rfl (by first | exact Or.inl rfl | exact Or.inr rfl) (se_callC c_law_mixed hr (by decide) (by rfl) tk_def (sa_cons (se_var 0) (sa_cons (se_add (se_add (se_int) (se_mul (se_int) (se_var 2))) (se_var 4)) (sa_nil)))))
    (ss_cons (ss_set (i := 6) sc_law_text.nd rfl (by first | exact Or.inl rfl | exact Or.inr rfl) (se_add (se_add (se_callTy call_str_int pb_str (by rfl) B.str (by decide +kernel) (sa_cons (se_sub (se_mod (se_div (se_var 5) (se_int)) (se_int)) (se_int)) (sa_nil))) (se_str)) (se_callTy call_str_int pb_str (by rfl) B.str (by decide +kernel) (sa_cons (se_mod (se_div (se_var 5) (se_int)) (se_int)) (sa_nil)))))
    (ss_one (ss_expr (se_append (se_var 3) (se_ix (se_lst (sa_cons (se_str) (sa_cons (se_var 6) (sa_nil)))) (se_callTy call_int1 pb_int (by rfl) B.int (by decide +kernel) (sa_cons (se_gt (se_mod (se_var 5) (se_int)) (se_int)) (sa_nil))) (fun _ _ => rfl))))))))
    (ss_one (ss_expr (se_append (se_var 1) (se_mStr PySem.F.slot_str_join PySem.F.type_str_join mt_join pm_join (se_str) (se_var 3))))))))
    (ss_cons (ss_expr (se_append (se_var 1) (se_add (se_add (se_callTy call_str_int pb_str (by rfl) B.str (by decide +kernel) (sa_cons (se_mod (se_div (se_var 0) (se_int)) (se_int)) (sa_nil))) (se_str)) (se_callTy call_str_int pb_str (by rfl) B.str (by decide +kernel) (sa_cons (se_mod (se_div (se_var 0) (se_int)) (se_int)) (sa_nil))))))
    (ss_cons (ss_set (i := 7) sc_law_text.nd rfl (by first | exact Or.inl rfl | exact Or.inr rfl) (se_mod (se_div (se_var 0) (se_int)) (se_int)))
    (ss_cons (ss_if (st_eq hr.units (se_var 7) (se_int)) (ss_one (ss_expr (se_popAt (se_var 1) (se_mod (se_div (se_var 0) (se_int)) (se_int))))) (ss_nil))
    (ss_cons (ss_if (st_eq hr.units (se_var 7) (se_int)) (ss_one (ss_expr (se_insert (se_var 1) (se_mod (se_div (se_var 0) (se_int)) (se_int)) (se_ix (se_var 1) (se_int) (fun _ _ => rfl))))) (ss_nil))
    (ss_cons (ss_if (st_eq hr.units (se_var 7) (se_int)) (ss_one (ss_set (i := 1) sc_law_text.nd rfl (by first | exact Or.inl rfl | exact Or.inr rfl) (se_rev (se_var 1)))) (ss_nil))
    (ss_one (ss_ret (se_mStr PySem.F.slot_str_join PySem.F.type_str_join mt_join pm_join (se_str) (se_var 1))))))))))) ob_law_text
theorem calread_place {f : Addr} {fd : FuncData} (B : Bi mg) (F : Fun K "read_place" "read_place" sread_place f fd) (hm : mg "read_place" = some (.ref f)) (b : Binds K fd ["text"] []) (cread_pair : Cal P w K mg base "read_pair" 2 ["text"] sp_read_pair) :
    Cal P w K mg base "read_place" 3 ["text"] sp_read_place :=
  cal_ok F hm scread_place b w_read_place len_read_place (fun cdv A outer s H E hr =>
    ss_cons (ss_if (st_eq hr.units (se_var 0) (se_str)) (ss_one (ss_ret (se_tup (sa_nil)))) (ss_nil))
    (ss_one (ss_ret (se_callC cread_pair hr (by decide) (by rfl) tk_def (sa_cons (se_var 0) (sa_nil)))))) ob_read_place
theorem cal_law_due {f : Addr} {fd : FuncData} (B : Bi mg) (F : Fun K "_law_due" "_law_due" s_law_due f fd) (hm : mg "_law_due" = some (.ref f)) (b : Binds K fd ["text"] []) (c_law_pair : Cal P w K mg base "_law_pair" 2 ["word"] sp_law_pair) :
    Cal P w K mg base "_law_due" 3 ["text"] sp_law_due :=
  cal_ok F hm sc_law_due b w_law_due len_law_due (fun cdv A outer s H E hr =>
    ss_cons (ss_set (i := 1) sc_law_due.nd rfl (by first | exact Or.inl rfl | exact Or.inr rfl) (se_mStr PySem.F.slot_str_split PySem.F.type_str_split mt_split pm_split (se_var 0) (se_str)))
    (ss_cons (ss_if (st_ne hr.units (se_callB call_len pb_len (by rfl) B.len (by decide +kernel) (sa_cons (se_var 1) (sa_nil))) (se_int)) (ss_one (ss_ret (se_non))) (ss_nil))
    (ss_cons (ss_set (i := 2) sc_law_due.nd rfl (by first | exact Or.inl rfl | exact Or.inr rfl) (se_lst (sa_nil)))
    (ss_cons (ss_for hp_def rfl (sg_name (i := 3) sc_law_due.nd rfl (by first | exact Or.inl rfl | exact Or.inr rfl)) (se_sl (se_var 1) .none (.some (se_int))) (ss_cons (ss_set (i := 4) sc_law_due.nd rfl (by first | exact Or.inl rfl | exact Or.inr rfl) (se_lst (sa_nil)))
    (ss_cons (ss_for hp_def rfl (sg_name (i := 5) sc_law_due.nd rfl (by first | exact Or.inl rfl | exact Or.inr rfl)) (se_mStr PySem.F.slot_str_split PySem.F.type_str_split mt_split pm_split (se_var 3) (se_str)) (ss_cons (ss_set (i := 6) sc_law_due.nd rfl (by first | exact Or.inl rfl | exact Or.inr rfl) (se_callC c_law_pair hr (by decide) (by rfl) tk_def (sa_cons (se_var 5) (sa_nil))))
    (ss_cons (ss_if (st_eq hr.units (se_var 5) (se_str)) (ss_one (ss_set (i := 6) sc_law_due.nd rfl (by first | exact Or.inl rfl | exact Or.inr rfl) (se_tup (sa_nil)))) (ss_nil))
    (ss_one (ss_expr (se_append (se_var 4) (se_var 6)))))))
    (ss_one (ss_expr (se_append (se_var 2) (se_var 4)))))))
    (ss_cons (ss_expr (se_append (se_var 2) (se_lst (sa_cons (se_callC c_law_pair hr (by decide) (by rfl) tk_def (sa_cons (se_ix (se_var 1) (se_int) (fun _ _ => rfl)) (sa_nil))) (sa_nil)))))
    (ss_cons (ss_if ((st_or (st_inD (hu_of hr) (se_non) (se_ix (se_var 2) (se_int) (fun _ _ => rfl))) (st_or (st_inD (hu_of hr) (se_non) (se_ix (se_var 2) (se_int) (fun _ _ => rfl))) (st_one (st_inD (hu_of hr) (se_non) (se_ix (se_var 2) (se_int) (fun _ _ => rfl)))))).pt) (ss_one (ss_ret (se_non))) (ss_nil))
    (ss_one (ss_ret (se_var 2))))))))) ob_law_due
theorem calread_disk {f : Addr} {fd : FuncData} (B : Bi mg) (F : Fun K "read_disk" "read_disk" sread_disk f fd) (hm : mg "read_disk" = some (.ref f)) (b : Binds K fd ["text"] []) (cread_place : Cal P w K mg base "read_place" 3 ["text"] sp_read_place) (cread_pair : Cal P w K mg base "read_pair" 2 ["text"] sp_read_pair) (xNoText : Xc K mg "NoText") :
    Cal P w K mg base "read_disk" 4 ["text"] sp_read_disk :=
  cal_ok F hm scread_disk b w_read_disk len_read_disk (fun cdv A outer s H E hr =>
    ss_cons (ss_if (st_not (st_val (se_isi (T := "str") (by decide) (by rfl) B.isinstance (by rfl) B.str (by decide +kernel) (se_var 0)))) (ss_one (ss_raise rfl tk_def xNoText (by rfl))) (ss_nil))
    (ss_cons (ss_set (i := 1) scread_disk.nd rfl (by first | exact Or.inl rfl | exact Or.inr rfl) (se_mStr PySem.F.slot_str_split PySem.F.type_str_split mt_split pm_split (se_var 0) (se_str)))
    (ss_cons (ss_if (st_ne hr.units (se_callB call_len pb_len (by rfl) B.len (by decide +kernel) (sa_cons (se_var 1) (sa_nil))) (se_int)) (ss_one (ss_raise rfl tk_def xNoText (by rfl))) (ss_nil))
    (ss_cons (ss_set (i := 2) scread_disk.nd rfl (by first | exact Or.inl rfl | exact Or.inr rfl) (se_lst (sa_nil)))
    (ss_cons (ss_for hp_def rfl (sg_name (i := 3) scread_disk.nd rfl (by first | exact Or.inl rfl | exact Or.inr rfl)) (se_sl (se_var 1) .none (.some (se_int))) (ss_one (ss_expr (se_append (se_var 2) (se_lcX rfl rfl tk_def rfl scread_disk.nd (se_mStr PySem.F.slot_str_split PySem.F.type_str_split mt_split pm_split (se_var 3) (se_str)) (blkOk_by (own := [("word", 4)]) (show blkC n_read_disk (defScope sread_disk) _ _ = true by decide +kernel)) rfl (fun _ _ _ _ _ _ => pg_name (i := 4) scread_disk.nd rfl (by first | exact Or.inl rfl | exact Or.inr rfl)) (of_name _ 4) (fun _ _ _ _ _ _ => sts_nil) (fun _ _ _ _ _ _ _ tkB => se_callC cread_place hr (by decide) (by rfl) tkB (sa_cons (se_var 4) (sa_nil))))))))
    (ss_one (ss_ret (se_lst (sa_cons (se_ix (se_var 2) (se_int) (fun _ _ => rfl)) (sa_cons (se_ix (se_var 2) (se_int) (fun _ _ => rfl)) (sa_cons (se_lst (sa_cons (se_callC cread_pair hr (by decide) (by rfl) tk_def (sa_cons (se_ix (se_var 1) (se_int) (fun _ _ => rfl)) (sa_nil))) (sa_nil))) (sa_nil)))))))))))) ob_read_disk
theorem cal_law_right {f : Addr} {fd : FuncData} (B : Bi mg) (F : Fun K "_law_right" "_law_right" s_law_right f fd) (hm : mg "_law_right" = some (.ref f)) (b : Binds K fd ["text", "due"] []) (cread_disk : Cal P w K mg base "read_disk" 4 ["text"] sp_read_disk) (xtShelfError : XT K mg "ShelfError" ["NoText"]) (vE : mg "ValueError" = none) (xi : XI K mg ["NoText"] ["NoText", "Full", "NoKey", "BadBounds", "BadDisk", "NoRow"]) :
    Cal P w K mg base "_law_right" 5 ["text", "due"] sp_law_right :=
  cal_ok F hm sc_law_right b w_law_right len_law_right (fun cdv A outer s H E hr =>
    ss_cons (ss_set (i := 2) sc_law_right.nd rfl (by first | exact Or.inl rfl | exact Or.inr rfl) (se_lst (sa_nil)))
    (ss_cons (ss_set (i := 3) sc_law_right.nd rfl (by first | exact Or.inl rfl | exact Or.inr rfl) (se_non))
    (ss_cons (ss_try_as (i := 4) (cs := ["NoText"]) rfl rfl sc_law_right.nd rfl rfl (by rfl) xtShelfError tk_def (fun W pn xe tk hp => ss_one (ss_set (i := 3) sc_law_right.nd rfl (by first | exact Or.inl rfl | exact Or.inr rfl) (se_callC cread_disk hr (by decide) (by rfl) tk (sa_cons (se_var 0) (sa_nil))))) (fun c C hc hm a oe pn hz hf => ss_cons (ss_set (i := 2) sc_law_right.nd rfl (by first | exact Or.inl rfl | exact Or.inr rfl) (se_lst (sa_cons (se_isE xi hc hm hz hf (by simp) (by rfl) B.isinstance (by rfl)) (sa_cons (se_isET xi hc hm hz hf (CT.cons (by simp) (by rfl) (by decide) (by rfl) (CT.cons (by simp) (by rfl) (by decide) (by rfl) (CT.cons (by simp) (by rfl) (by decide) (by rfl) (CT.cons (by simp) (by rfl) (by decide) (by rfl) (CT.cons (by simp) (by rfl) (by decide) (by rfl) CT.nil))))) (by decide) (by rfl) B.isinstance) (sa_nil)))))
    (ss_one (ss_expr (se_append (se_var 2) (se_isEV xi hc hm hz hf (by rfl) B.isinstance (by rfl) vE))))))
    (ss_cons (ss_if (st_isN (se_var 1)) (ss_one (ss_ret (se_eq hr.units (se_var 2) (se_lst (sa_cons (se_bl) (sa_cons (se_bl) (sa_cons (se_bl) (sa_nil)))))))) (ss_nil))
    (ss_one (ss_ret (se_and (se_eq hr.units (se_var 2) (se_lst (sa_nil))) (se_one (se_eq hr.units (se_var 3) (se_var 1)))))))))) ob_law_right
theorem fn_law {f : Addr} {fd : FuncData} (B : Bi mg) (F : Fun K "law" "law" slaw f fd) (c_law_text : Cal P w K mg base "_law_text" 2 ["cell"] sp_law_text) (c_law_spoilt : Cal P w K mg base "_law_spoilt" 1 ["text", "cell"] sp_law_spoilt) (c_law_due : Cal P w K mg base "_law_due" 3 ["text"] sp_law_due) (c_law_right : Cal P w K mg base "_law_right" 5 ["text", "due"] sp_law_right) (c_law_spread : Cal P w K mg base "_law_spread" 1 ["cell"] sp_law_spread) :
    FnOk P w K mg base (L2.CX P w) 6 f fd ["script"] (spOf K mg spLaw) :=
  fn_ok F sclaw w_law len_law (fun cdv A outer s H E hr =>
    ss_cons (ss_for hp_def rfl (sg_name (i := 1) sclaw.nd rfl (by first | exact Or.inl rfl | exact Or.inr rfl)) (se_lc rfl sclaw.nd (se_add (se_lst (sa_cons (se_int) (sa_nil))) (se_sl (se_var 0) .none (.some (se_int)))) (blkOk_by (own := [("one", 2)]) (show blkC n_law (defScope slaw) _ _ = true by decide +kernel)) rfl (fun _ _ _ _ _ => pg_name (i := 2) sclaw.nd rfl (by first | exact Or.inl rfl | exact Or.inr rfl)) (of_name _ 2) (fun _ _ _ _ _ => sts_nil) (fun _ _ _ _ _ => se_callC c_law_spread hr (by decide) (by rfl) takes0 (sa_cons (se_var 2) (sa_nil)))) (ss_cons (ss_set (i := 3) sclaw.nd rfl (by first | exact Or.inl rfl | exact Or.inr rfl) (se_callC c_law_spoilt hr (by decide) (by rfl) tk_def (sa_cons (se_callC c_law_text hr (by decide) (by rfl) tk_def (sa_cons (se_var 1) (sa_nil))) (sa_cons (se_div (se_var 1) (se_int)) (sa_nil)))))
    (ss_cons (ss_if (st_not (st_val (se_callC c_law_right hr (by decide) (by rfl) tk_def (sa_cons (se_var 3) (sa_cons (se_callC c_law_due hr (by decide) (by rfl) tk_def (sa_cons (se_var 3) (sa_nil))) (sa_nil)))))) (ss_one (ss_ret (se_bl))) (ss_nil))
    (ss_cons (ss_set (i := 4) sclaw.nd rfl (by first | exact Or.inl rfl | exact Or.inr rfl) (se_lst (sa_cons (se_str) (sa_cons (se_str) (sa_cons (se_str) (sa_cons (se_str) (sa_cons (se_str) (sa_cons (se_str) (sa_cons (se_str) (sa_nil))))))))))
    (ss_cons (ss_set (i := 4) sclaw.nd rfl (by first | exact Or.inl rfl | exact Or.inr rfl) (se_add (se_var 4) (se_lst (sa_cons (se_str) (sa_cons (se_str) (sa_cons (se_non) (sa_cons (se_int) (sa_cons (se_bl) (sa_cons (se_lst (sa_cons (se_str) (sa_nil))) (sa_cons (se_tup (sa_cons (se_str) (sa_cons (se_str) (sa_cons (se_str) (sa_nil))))) (sa_cons (se_lst (sa_cons (se_lst (sa_cons (se_tup (sa_nil)) (sa_nil))) (sa_cons (se_lst (sa_cons (se_tup (sa_nil)) (sa_nil))) (sa_cons (se_lst (sa_cons (se_tup (sa_cons (se_int) (sa_cons (se_int) (sa_nil)))) (sa_nil))) (sa_nil))))) (sa_nil))))))))))))
    (ss_one (ss_if (st_not (st_val (se_callC c_law_right hr (by decide) (by rfl) tk_def (sa_cons (se_ix (se_var 4) (se_mod (se_div (se_var 1) (se_int)) (se_int)) (fun _ _ => rfl)) (sa_cons (se_non) (sa_nil)))))) (ss_one (ss_ret (se_bl))) (ss_nil))))))))
    (ss_one (ss_ret (se_bl)))) ob_law
end
theorem all_mk {l : PySem.W.OpenLaw} {w : World} {K : PySem.W.Frag} {h : Heap} {mg : Str → Option Value} {fa f0 f1 f2 f3 f4 f5 f6 f7 f8 f9 f10 f11 f12 C_NoText C_ShelfError C_Full C_NoKey C_BadBounds C_BadDisk C_NoRow : Addr} (X : K.In h) (G : h.Ns mainGlobals mg) (hfa : mg "law" = some (.ref fa))
    {tk_FIGURES : Tok}
    {od0 an0 od1 an1 od2 an2 od3 an3 od4 an4 od5 an5 od6 an6 od7 an7 od8 an8 od9 an9 od10 an10 od11 an11 od12 an12 : Option Addr}
    {sl0 sl1 sl2 sl3 sl4 sl5 sl6 sl7 sl8 sl9 sl10 sl11 sl12 : Array (Option Value)} {oc0 kV0 dc0 pm0 cd0 ct0 oc1 kV1 dc1 pm1 cd1 ct1 oc2 kV2 dc2 pm2 cd2 ct2 oc3 kV3 dc3 pm3 cd3 ct3 oc4 kV4 dc4 pm4 cd4 ct4 oc5 kV5 dc5 pm5 cd5 ct5 oc6 kV6 dc6 pm6 cd6 ct6 oc7 kV7 dc7 pm7 cd7 ct7 oc8 kV8 dc8 pm8 cd8 ct8 oc9 kV9 dc9 pm9 cd9 ct9 oc10 kV10 dc10 pm10 cd10 ct10 oc11 kV11 dc11 pm11 cd11 ct11 oc12 kV12 dc12 pm12 cd12 ct12 : Value}
    (a0 : PySem.W.nsIn K mainGlobals "read_number" = some (some (.ref f0))) (l0 : K.lookup f0 = some ⟨oc0, od0, .func (PySem.W.fnOf "read_number" "read_number" (defArgs sread_number) (defBody sread_number) (defScope sread_number) .none kV0 dc0 pm0 an0 cd0 ct0), sl0⟩) (c0 : PySem.W.codeIn K cd0 "read_number" = true) (k0 : PySem.W.keepIn K (.ref f0) = true)
    (a1 : PySem.W.nsIn K mainGlobals "read_pair" = some (some (.ref f1))) (l1 : K.lookup f1 = some ⟨oc1, od1, .func (PySem.W.fnOf "read_pair" "read_pair" (defArgs sread_pair) (defBody sread_pair) (defScope sread_pair) .none kV1 dc1 pm1 an1 cd1 ct1), sl1⟩) (c1 : PySem.W.codeIn K cd1 "read_pair" = true) (k1 : PySem.W.keepIn K (.ref f1) = true)
    (a2 : PySem.W.nsIn K mainGlobals "read_place" = some (some (.ref f2))) (l2 : K.lookup f2 = some ⟨oc2, od2, .func (PySem.W.fnOf "read_place" "read_place" (defArgs sread_place) (defBody sread_place) (defScope sread_place) .none kV2 dc2 pm2 an2 cd2 ct2), sl2⟩) (c2 : PySem.W.codeIn K cd2 "read_place" = true) (k2 : PySem.W.keepIn K (.ref f2) = true)
    (a3 : PySem.W.nsIn K mainGlobals "read_disk" = some (some (.ref f3))) (l3 : K.lookup f3 = some ⟨oc3, od3, .func (PySem.W.fnOf "read_disk" "read_disk" (defArgs sread_disk) (defBody sread_disk) (defScope sread_disk) .none kV3 dc3 pm3 an3 cd3 ct3), sl3⟩) (c3 : PySem.W.codeIn K cd3 "read_disk" = true) (k3 : PySem.W.keepIn K (.ref f3) = true)
    (a4 : PySem.W.nsIn K mainGlobals "_law_spread" = some (some (.ref f4))) (l4 : K.lookup f4 = some ⟨oc4, od4, .func (PySem.W.fnOf "_law_spread" "_law_spread" (defArgs s_law_spread) (defBody s_law_spread) (defScope s_law_spread) .none kV4 dc4 pm4 an4 cd4 ct4), sl4⟩) (c4 : PySem.W.codeIn K cd4 "_law_spread" = true) (k4 : PySem.W.keepIn K (.ref f4) = true)
    (a5 : PySem.W.nsIn K mainGlobals "_law_mixed" = some (some (.ref f5))) (l5 : K.lookup f5 = some ⟨oc5, od5, .func (PySem.W.fnOf "_law_mixed" "_law_mixed" (defArgs s_law_mixed) (defBody s_law_mixed) (defScope s_law_mixed) .none kV5 dc5 pm5 an5 cd5 ct5), sl5⟩) (c5 : PySem.W.codeIn K cd5 "_law_mixed" = true) (k5 : PySem.W.keepIn K (.ref f5) = true)
    (a6 : PySem.W.nsIn K mainGlobals "_law_number" = some (some (.ref f6))) (l6 : K.lookup f6 = some ⟨oc6, od6, .func (PySem.W.fnOf "_law_number" "_law_number" (defArgs s_law_number) (defBody s_law_number) (defScope s_law_number) .none kV6 dc6 pm6 an6 cd6 ct6), sl6⟩) (c6 : PySem.W.codeIn K cd6 "_law_number" = true) (k6 : PySem.W.keepIn K (.ref f6) = true)
    (a7 : PySem.W.nsIn K mainGlobals "_law_pair" = some (some (.ref f7))) (l7 : K.lookup f7 = some ⟨oc7, od7, .func (PySem.W.fnOf "_law_pair" "_law_pair" (defArgs s_law_pair) (defBody s_law_pair) (defScope s_law_pair) .none kV7 dc7 pm7 an7 cd7 ct7), sl7⟩) (c7 : PySem.W.codeIn K cd7 "_law_pair" = true) (k7 : PySem.W.keepIn K (.ref f7) = true)
    (a8 : PySem.W.nsIn K mainGlobals "_law_due" = some (some (.ref f8))) (l8 : K.lookup f8 = some ⟨oc8, od8, .func (PySem.W.fnOf "_law_due" "_law_due" (defArgs s_law_due) (defBody s_law_due) (defScope s_law_due) .none kV8 dc8 pm8 an8 cd8 ct8), sl8⟩) (c8 : PySem.W.codeIn K cd8 "_law_due" = true) (k8 : PySem.W.keepIn K (.ref f8) = true)
    (a9 : PySem.W.nsIn K mainGlobals "_law_text" = some (some (.ref f9))) (l9 : K.lookup f9 = some ⟨oc9, od9, .func (PySem.W.fnOf "_law_text" "_law_text" (defArgs s_law_text) (defBody s_law_text) (defScope s_law_text) .none kV9 dc9 pm9 an9 cd9 ct9), sl9⟩) (c9 : PySem.W.codeIn K cd9 "_law_text" = true) (k9 : PySem.W.keepIn K (.ref f9) = true)
    (a10 : PySem.W.nsIn K mainGlobals "_law_spoilt" = some (some (.ref f10))) (l10 : K.lookup f10 = some ⟨oc10, od10, .func (PySem.W.fnOf "_law_spoilt" "_law_spoilt" (defArgs s_law_spoilt) (defBody s_law_spoilt) (defScope s_law_spoilt) .none kV10 dc10 pm10 an10 cd10 ct10), sl10⟩) (c10 : PySem.W.codeIn K cd10 "_law_spoilt" = true) (k10 : PySem.W.keepIn K (.ref f10) = true)
    (a11 : PySem.W.nsIn K mainGlobals "_law_right" = some (some (.ref f11))) (l11 : K.lookup f11 = some ⟨oc11, od11, .func (PySem.W.fnOf "_law_right" "_law_right" (defArgs s_law_right) (defBody s_law_right) (defScope s_law_right) .none kV11 dc11 pm11 an11 cd11 ct11), sl11⟩) (c11 : PySem.W.codeIn K cd11 "_law_right" = true) (k11 : PySem.W.keepIn K (.ref f11) = true)
    (a12 : PySem.W.nsIn K mainGlobals "law" = some (some (.ref f12))) (l12 : K.lookup f12 = some ⟨oc12, od12, .func (PySem.W.fnOf "law" "law" (defArgs slaw) (defBody slaw) (defScope slaw) .none kV12 dc12 pm12 an12 cd12 ct12), sl12⟩) (c12 : PySem.W.codeIn K cd12 "law" = true) (k12 : PySem.W.keepIn K (.ref f12) = true)
    (z0 : PySem.W.nsIn K mainGlobals "len" = some none)
    (z1 : PySem.W.nsIn K mainGlobals "range" = some none)
    (z2 : PySem.W.nsIn K mainGlobals "isinstance" = some none)
    (z3 : PySem.W.nsIn K mainGlobals "int" = some none)
    (z4 : PySem.W.nsIn K mainGlobals "bool" = some none)
    (z5 : PySem.W.nsIn K mainGlobals "str" = some none)
    (z6 : PySem.W.nsIn K mainGlobals "tuple" = some none)
    (z7 : PySem.W.nsIn K mainGlobals "list" = some none)
    (z8 : PySem.W.nsIn K mainGlobals "dict" = some none)
    (z9 : PySem.W.nsIn K mainGlobals "max" = some none)
    (z10 : PySem.W.nsIn K mainGlobals "min" = some none)
    (z11 : PySem.W.nsIn K mainGlobals "sorted" = some none)
    (z12 : PySem.W.nsIn K mainGlobals "sum" = some none)
    (z13 : PySem.W.nsIn K mainGlobals "abs" = some none)
    (z14 : PySem.W.nsIn K mainGlobals "zip" = some none)
    (v_FIGURES : PySem.W.nsIn K mainGlobals "FIGURES" = some (some (.str "0123456789" tk_FIGURES)))
    (a_NoText : PySem.W.nsIn K mainGlobals "NoText" = some (some (.ref C_NoText)))
    (xf_NoText : PySem.W.excIn K C_NoText [.type "ValueError", .type "Exception", .type "BaseException", .type "object"] "ValueError.__new__" = true)
    (kf_NoText : PySem.W.keepIn K (.ref C_NoText) = true)
    (bf_NoText : PySem.W.subIn K (.ref C_NoText) (.type "BaseException") = some true)
    (tf_NoText : PySem.W.typeIn K (.ref C_NoText) = some (.type "type"))
    (a_ShelfError : PySem.W.nsIn K mainGlobals "ShelfError" = some (some (.ref C_ShelfError)))
    (bf_ShelfError : PySem.W.subIn K (.ref C_ShelfError) (.type "BaseException") = some true)
    (hd_ShelfError : PySem.W.hasDictIn K C_ShelfError = true)
    (tf_ShelfError : PySem.W.typeIn K (.ref C_ShelfError) = some (.type "type"))
    (sb_NoText_ShelfError : PySem.W.subIn K (.ref C_NoText) (.ref C_ShelfError) = some true)
    (e_n : PySem.W.specialIn K (.builtin "object.__class__") "__get__" = some (some (.builtin "getset_descriptor.__get__")))
    (e_t : PySem.W.takesIn K (.builtin "object.__class__") = some true)
    (eg_NoText : PySem.W.findIn K (.ref C_NoText) "__getattribute__" = some (some (.builtin "BaseException.__getattribute__")))
    (ek_NoText : PySem.W.findIn K (.ref C_NoText) "__getattr__" = some none)
    (hd_NoText : PySem.W.hasDictIn K C_NoText = true)
    (ea_NoText : PySem.W.findIn K (.ref C_NoText) "__class__" = some (some (.builtin "object.__class__")))
    (em_NoText : PySem.W.mroIn K C_NoText (.type "object") = some true)
    (kv_NoText : PySem.W.subIn K (.ref C_NoText) (.type "ValueError") = some true)
    (a_Full : PySem.W.nsIn K mainGlobals "Full" = some (some (.ref C_Full)))
    (kn_NoText_Full : (Value.ref C_NoText == Value.ref C_Full) = false)
    (hd_Full : PySem.W.hasDictIn K C_Full = true)
    (tf_Full : PySem.W.typeIn K (.ref C_Full) = some (.type "type"))
    (sb_NoText_Full : PySem.W.subIn K (.ref C_NoText) (.ref C_Full) = some false)
    (a_NoKey : PySem.W.nsIn K mainGlobals "NoKey" = some (some (.ref C_NoKey)))
    (kn_NoText_NoKey : (Value.ref C_NoText == Value.ref C_NoKey) = false)
    (hd_NoKey : PySem.W.hasDictIn K C_NoKey = true)
    (tf_NoKey : PySem.W.typeIn K (.ref C_NoKey) = some (.type "type"))
    (sb_NoText_NoKey : PySem.W.subIn K (.ref C_NoText) (.ref C_NoKey) = some false)
    (a_BadBounds : PySem.W.nsIn K mainGlobals "BadBounds" = some (some (.ref C_BadBounds)))
    (kn_NoText_BadBounds : (Value.ref C_NoText == Value.ref C_BadBounds) = false)
    (hd_BadBounds : PySem.W.hasDictIn K C_BadBounds = true)
    (tf_BadBounds : PySem.W.typeIn K (.ref C_BadBounds) = some (.type "type"))
    (sb_NoText_BadBounds : PySem.W.subIn K (.ref C_NoText) (.ref C_BadBounds) = some false)
    (a_BadDisk : PySem.W.nsIn K mainGlobals "BadDisk" = some (some (.ref C_BadDisk)))
    (kn_NoText_BadDisk : (Value.ref C_NoText == Value.ref C_BadDisk) = false)
    (hd_BadDisk : PySem.W.hasDictIn K C_BadDisk = true)
    (tf_BadDisk : PySem.W.typeIn K (.ref C_BadDisk) = some (.type "type"))
    (sb_NoText_BadDisk : PySem.W.subIn K (.ref C_NoText) (.ref C_BadDisk) = some false)
    (a_NoRow : PySem.W.nsIn K mainGlobals "NoRow" = some (some (.ref C_NoRow)))
    (kn_NoText_NoRow : (Value.ref C_NoText == Value.ref C_NoRow) = false)
    (hd_NoRow : PySem.W.hasDictIn K C_NoRow = true)
    (tf_NoRow : PySem.W.typeIn K (.ref C_NoRow) = some (.type "type"))
    (sb_NoText_NoRow : PySem.W.subIn K (.ref C_NoText) (.ref C_NoRow) = some false)
    (z_VE : PySem.W.nsIn K mainGlobals "ValueError" = some none)
    : ∃ fd : FuncData, (∀ (s : Shared) (v : Value), BindsTo s fd ⟨[v], []⟩ [("script", v)]) ∧ ∀ base : Heap, K.In base → base.Ns mainGlobals mg → FnOk l.prog w K mg base (L2.CX l.prog w) 6 fa fd ["script"] (spAll K) := by
  have e := hfa.symm.trans (PySem.W.mg_of X G a12)
  cases e
  have F0 := fun_mk (st := sread_number) l0 c0 k0
  have b0 := F0.binds (ps := ["text"]) fun _ _ _ _ _ _ us hl => match us, hl with | [_], _ => rfl
  have F1 := fun_mk (st := sread_pair) l1 c1 k1
  have b1 := F1.binds (ps := ["text"]) fun _ _ _ _ _ _ us hl => match us, hl with | [_], _ => rfl
  have F2 := fun_mk (st := sread_place) l2 c2 k2
  have b2 := F2.binds (ps := ["text"]) fun _ _ _ _ _ _ us hl => match us, hl with | [_], _ => rfl
  have F3 := fun_mk (st := sread_disk) l3 c3 k3
  have b3 := F3.binds (ps := ["text"]) fun _ _ _ _ _ _ us hl => match us, hl with | [_], _ => rfl
  have F4 := fun_mk (st := s_law_spread) l4 c4 k4
  have b4 := F4.binds (ps := ["cell"]) fun _ _ _ _ _ _ us hl => match us, hl with | [_], _ => rfl
  have F5 := fun_mk (st := s_law_mixed) l5 c5 k5
  have b5 := F5.binds (ps := ["cell", "k"]) fun _ _ _ _ _ _ us hl => match us, hl with | [_, _], _ => rfl
  have F6 := fun_mk (st := s_law_number) l6 c6 k6
  have b6 := F6.binds (ps := ["text"]) fun _ _ _ _ _ _ us hl => match us, hl with | [_], _ => rfl
  have F7 := fun_mk (st := s_law_pair) l7 c7 k7
  have b7 := F7.binds (ps := ["word"]) fun _ _ _ _ _ _ us hl => match us, hl with | [_], _ => rfl
  have F8 := fun_mk (st := s_law_due) l8 c8 k8
  have b8 := F8.binds (ps := ["text"]) fun _ _ _ _ _ _ us hl => match us, hl with | [_], _ => rfl
  have F9 := fun_mk (st := s_law_text) l9 c9 k9
  have b9 := F9.binds (ps := ["cell"]) fun _ _ _ _ _ _ us hl => match us, hl with | [_], _ => rfl
  have F10 := fun_mk (st := s_law_spoilt) l10 c10 k10
  have b10 := F10.binds (ps := ["text", "cell"]) fun _ _ _ _ _ _ us hl => match us, hl with | [_, _], _ => rfl
  have F11 := fun_mk (st := s_law_right) l11 c11 k11
  have b11 := F11.binds (ps := ["text", "due"]) fun _ _ _ _ _ _ us hl => match us, hl with | [_, _], _ => rfl
  have F12 := fun_mk (st := slaw) l12 c12 k12
  have b12 := F12.binds (ps := ["script"]) fun _ _ _ _ _ _ us hl => match us, hl with | [_], _ => rfl
  have B : Bi mg := ⟨PySem.W.mg_none_of X G z0, PySem.W.mg_none_of X G z1, PySem.W.mg_none_of X G z2, PySem.W.mg_none_of X G z3, PySem.W.mg_none_of X G z4, PySem.W.mg_none_of X G z5, PySem.W.mg_none_of X G z6, PySem.W.mg_none_of X G z7, PySem.W.mg_none_of X G z8, PySem.W.mg_none_of X G z9, PySem.W.mg_none_of X G z10, PySem.W.mg_none_of X G z11, PySem.W.mg_none_of X G z12, PySem.W.mg_none_of X G z13, PySem.W.mg_none_of X G z14⟩
  have GFIGURES : ∃ u, mg "FIGURES" = some u ∧ RelV (V.str "0123456789") u := ⟨_, PySem.W.mg_of X G v_FIGURES, ⟨_, rfl⟩⟩
  have XNoText : Xc K mg "NoText" := ⟨C_NoText, (PySem.W.mg_of X G a_NoText), xf_NoText, kf_NoText, bf_NoText, tf_NoText⟩
  have XTShelfError : XT K mg "ShelfError" ["NoText"] := ⟨C_ShelfError, (PySem.W.mg_of X G a_ShelfError), fun c h => by
    simp only [List.mem_cons, List.not_mem_nil, or_false] at h
    rcases h with rfl
    · exact ⟨C_NoText, (PySem.W.mg_of X G a_NoText), PySem.W.exm_ref bf_ShelfError hd_ShelfError tf_ShelfError sb_NoText_ShelfError⟩⟩
  have VE : mg "ValueError" = none := PySem.W.mg_none_of X G z_VE
  have XI_law_right : XI K mg ["NoText"] ["NoText", "Full", "NoKey", "BadBounds", "BadDisk", "NoRow"] := fun c h => by
    simp only [List.mem_cons, List.not_mem_nil, or_false] at h
    rcases h with rfl
    · exact ⟨C_NoText, (PySem.W.mg_of X G a_NoText), ⟨eg_NoText, ek_NoText, bf_NoText, hd_NoText, ea_NoText, e_n, e_t, em_NoText⟩, kit_VE kv_NoText, fun t h => by
      simp only [List.mem_cons, List.not_mem_nil, or_false] at h
      rcases h with rfl | rfl | rfl | rfl | rfl | rfl
      · exact ⟨C_NoText, (PySem.W.mg_of X G a_NoText), (show PySem.W.kitOne K (.ref C_NoText) (.ref C_NoText) = some (isub "NoText" "NoText") from by rw [show isub "NoText" "NoText" = true by decide +kernel]; exact kit_self)⟩
      · exact ⟨C_Full, (PySem.W.mg_of X G a_Full), (show PySem.W.kitOne K (.ref C_NoText) (.ref C_Full) = some (isub "NoText" "Full") from by rw [show isub "NoText" "Full" = false by decide +kernel]; exact kit_ref kn_NoText_Full hd_Full tf_Full sb_NoText_Full)⟩
      · exact ⟨C_NoKey, (PySem.W.mg_of X G a_NoKey), (show PySem.W.kitOne K (.ref C_NoText) (.ref C_NoKey) = some (isub "NoText" "NoKey") from by rw [show isub "NoText" "NoKey" = false by decide +kernel]; exact kit_ref kn_NoText_NoKey hd_NoKey tf_NoKey sb_NoText_NoKey)⟩
      · exact ⟨C_BadBounds, (PySem.W.mg_of X G a_BadBounds), (show PySem.W.kitOne K (.ref C_NoText) (.ref C_BadBounds) = some (isub "NoText" "BadBounds") from by rw [show isub "NoText" "BadBounds" = false by decide +kernel]; exact kit_ref kn_NoText_BadBounds hd_BadBounds tf_BadBounds sb_NoText_BadBounds)⟩
      · exact ⟨C_BadDisk, (PySem.W.mg_of X G a_BadDisk), (show PySem.W.kitOne K (.ref C_NoText) (.ref C_BadDisk) = some (isub "NoText" "BadDisk") from by rw [show isub "NoText" "BadDisk" = false by decide +kernel]; exact kit_ref kn_NoText_BadDisk hd_BadDisk tf_BadDisk sb_NoText_BadDisk)⟩
      · exact ⟨C_NoRow, (PySem.W.mg_of X G a_NoRow), (show PySem.W.kitOne K (.ref C_NoText) (.ref C_NoRow) = some (isub "NoText" "NoRow") from by rw [show isub "NoText" "NoRow" = false by decide +kernel]; exact kit_ref kn_NoText_NoRow hd_NoRow tf_NoRow sb_NoText_NoRow)⟩⟩
  refine ⟨PySem.W.fnOf "law" "law" (defArgs slaw) (defBody slaw) (defScope slaw) .none kV12 dc12 pm12 an12 cd12 ct12, fun s v => .of_eq rfl, fun base _ _ => ?_⟩
  have Cread_number := calread_number (P := l.prog) (w := w) (base := base) B F0 (PySem.W.mg_of X G a0) b0  GFIGURES XNoText
  have C_law_spread := cal_law_spread (P := l.prog) (w := w) (base := base) B F4 (PySem.W.mg_of X G a4) b4 
  have C_law_mixed := cal_law_mixed (P := l.prog) (w := w) (base := base) B F5 (PySem.W.mg_of X G a5) b5 
  have C_law_number := cal_law_number (P := l.prog) (w := w) (base := base) B F6 (PySem.W.mg_of X G a6) b6 
  have C_law_spoilt := cal_law_spoilt (P := l.prog) (w := w) (base := base) B F10 (PySem.W.mg_of X G a10) b10 
  have Cread_pair := calread_pair (P := l.prog) (w := w) (base := base) B F1 (PySem.W.mg_of X G a1) b1 Cread_number XNoText
  have C_law_pair := cal_law_pair (P := l.prog) (w := w) (base := base) B F7 (PySem.W.mg_of X G a7) b7 C_law_number
  have C_law_text := cal_law_text (P := l.prog) (w := w) (base := base) B F9 (PySem.W.mg_of X G a9) b9 C_law_mixed
  have Cread_place := calread_place (P := l.prog) (w := w) (base := base) B F2 (PySem.W.mg_of X G a2) b2 Cread_pair
  have C_law_due := cal_law_due (P := l.prog) (w := w) (base := base) B F8 (PySem.W.mg_of X G a8) b8 C_law_pair
  have Cread_disk := calread_disk (P := l.prog) (w := w) (base := base) B F3 (PySem.W.mg_of X G a3) b3 Cread_place Cread_pair XNoText
  have C_law_right := cal_law_right (P := l.prog) (w := w) (base := base) B F11 (PySem.W.mg_of X G a11) b11 Cread_disk XTShelfError VE XI_law_right
  exact (fn_law (P := l.prog) (w := w) (base := base) B F12 C_law_text C_law_spoilt C_law_due C_law_right C_law_spread).imp fun vs H Q E h => h mg
end GS
open PySem PySem.W PyProof.Rows
set_option maxHeartbeats 0 in
theorem PySem.Challenge.cw_gapshelf_k38_odd_disk_texts_holds : PySem.Challenge.rw_gapshelf_k38_odd_disk_texts.Holds := by
  w_on; o_law; k_head; (case hw => w_witness2)
  k_fill
  refine L2.walk_of (l := PySem.Challenge.rw_gapshelf_k38_odd_disk_texts) (n := 63) (k := 6) (x := "script") (CX := fun w => L2.CX (PySem.Challenge.rw_gapshelf_k38_odd_disk_texts).prog w) (sp := fun w => GS.spAll _) rfl (by decide) rfl ⟨rfl, by decide, by decide⟩ (fun w h Y => PySem.W.kIn_of Y) ?F (fun _ _ a ns hl ho hS mg => GS.law_start hl ho hS) (fun _ H s e s' h => GS.law_noCX H s e s' h)
  case F =>
    intro w mg fa h KX G hmg
    refine' GS.all_mk KX G hmg (a_NoText := ?a_NoText) (a_ShelfError := ?a_ShelfError) (a_Full := ?a_Full) (a_NoKey := ?a_NoKey) (a_BadBounds := ?a_BadBounds) (a_BadDisk := ?a_BadDisk) (a_NoRow := ?a_NoRow) (a0 := ?a0) (l0 := ?l0) (c0 := ?c0) (k0 := ?k0) (a1 := ?a1) (l1 := ?l1) (c1 := ?c1) (k1 := ?k1) (a2 := ?a2) (l2 := ?l2) (c2 := ?c2) (k2 := ?k2) (a3 := ?a3) (l3 := ?l3) (c3 := ?c3) (k3 := ?k3) (a4 := ?a4) (l4 := ?l4) (c4 := ?c4) (k4 := ?k4) (a5 := ?a5) (l5 := ?l5) (c5 := ?c5) (k5 := ?k5) (a6 := ?a6) (l6 := ?l6) (c6 := ?c6) (k6 := ?k6) (a7 := ?a7) (l7 := ?l7) (c7 := ?c7) (k7 := ?k7) (a8 := ?a8) (l8 := ?l8) (c8 := ?c8) (k8 := ?k8) (a9 := ?a9) (l9 := ?l9) (c9 := ?c9) (k9 := ?k9) (a10 := ?a10) (l10 := ?l10) (c10 := ?c10) (k10 := ?k10) (a11 := ?a11) (l11 := ?l11) (c11 := ?c11) (k11 := ?k11) (a12 := ?a12) (l12 := ?l12) (c12 := ?c12) (k12 := ?k12) (z0 := ?z0) (z1 := ?z1) (z2 := ?z2) (z3 := ?z3) (z4 := ?z4) (z5 := ?z5) (z6 := ?z6) (z7 := ?z7) (z8 := ?z8) (z9 := ?z9) (z10 := ?z10) (z11 := ?z11) (z12 := ?z12) (z13 := ?z13) (z14 := ?z14) (v_FIGURES := ?v_FIGURES) (xf_NoText := ?xf_NoText) (kf_NoText := ?kf_NoText) (bf_NoText := ?bf_NoText) (tf_NoText := ?tf_NoText) (bf_ShelfError := ?bf_ShelfError) (hd_ShelfError := ?hd_ShelfError) (tf_ShelfError := ?tf_ShelfError) (sb_NoText_ShelfError := ?sb_NoText_ShelfError) (e_n := ?e_n) (e_t := ?e_t) (eg_NoText := ?eg_NoText) (ek_NoText := ?ek_NoText) (hd_NoText := ?hd_NoText) (ea_NoText := ?ea_NoText) (em_NoText := ?em_NoText) (kv_NoText := ?kv_NoText) (kn_NoText_Full := ?kn_NoText_Full) (hd_Full := ?hd_Full) (tf_Full := ?tf_Full) (sb_NoText_Full := ?sb_NoText_Full) (kn_NoText_NoKey := ?kn_NoText_NoKey) (hd_NoKey := ?hd_NoKey) (tf_NoKey := ?tf_NoKey) (sb_NoText_NoKey := ?sb_NoText_NoKey) (kn_NoText_BadBounds := ?kn_NoText_BadBounds) (hd_BadBounds := ?hd_BadBounds) (tf_BadBounds := ?tf_BadBounds) (sb_NoText_BadBounds := ?sb_NoText_BadBounds) (kn_NoText_BadDisk := ?kn_NoText_BadDisk) (hd_BadDisk := ?hd_BadDisk) (tf_BadDisk := ?tf_BadDisk) (sb_NoText_BadDisk := ?sb_NoText_BadDisk) (kn_NoText_NoRow := ?kn_NoText_NoRow) (hd_NoRow := ?hd_NoRow) (tf_NoRow := ?tf_NoRow) (sb_NoText_NoRow := ?sb_NoText_NoRow) (z_VE := ?z_VE)
    (case a_NoText => k_is)
    (case a_ShelfError => k_is)
    (case a_Full => k_is)
    (case a_NoKey => k_is)
    (case a_BadBounds => k_is)
    (case a_BadDisk => k_is)
    (case a_NoRow => k_is)
    (case a0 => k_is)
    (case l0 => k_is)
    (case c0 => k_is)
    (case k0 => k_is)
    (case a1 => k_is)
    (case l1 => k_is)
    (case c1 => k_is)
    (case k1 => k_is)
    (case a2 => k_is)
    (case l2 => k_is)
    (case c2 => k_is)
    (case k2 => k_is)
    (case a3 => k_is)
    (case l3 => k_is)
    (case c3 => k_is)
    (case k3 => k_is)
    (case a4 => k_is)
    (case l4 => k_is)
    (case c4 => k_is)
    (case k4 => k_is)
    (case a5 => k_is)
    (case l5 => k_is)
    (case c5 => k_is)
    (case k5 => k_is)
    (case a6 => k_is)
    (case l6 => k_is)
    (case c6 => k_is)
    (case k6 => k_is)
    (case a7 => k_is)
    (case l7 => k_is)
    (case c7 => k_is)
    (case k7 => k_is)
    (case a8 => k_is)
    (case l8 => k_is)
    (case c8 => k_is)
    (case k8 => k_is)
    (case a9 => k_is)
    (case l9 => k_is)
    (case c9 => k_is)
    (case k9 => k_is)
    (case a10 => k_is)
    (case l10 => k_is)
    (case c10 => k_is)
    (case k10 => k_is)
    (case a11 => k_is)
    (case l11 => k_is)
    (case c11 => k_is)
    (case k11 => k_is)
    (case a12 => k_is)
    (case l12 => k_is)
    (case c12 => k_is)
    (case k12 => k_is)
    (case z0 => k_is)
    (case z1 => k_is)
    (case z2 => k_is)
    (case z3 => k_is)
    (case z4 => k_is)
    (case z5 => k_is)
    (case z6 => k_is)
    (case z7 => k_is)
    (case z8 => k_is)
    (case z9 => k_is)
    (case z10 => k_is)
    (case z11 => k_is)
    (case z12 => k_is)
    (case z13 => k_is)
    (case z14 => k_is)
    (case v_FIGURES => k_is)
    (case xf_NoText => k_exc)
    (case kf_NoText => k_is)
    (case bf_NoText => k_is)
    (case tf_NoText => k_is)
    (case bf_ShelfError => k_is)
    (case hd_ShelfError => k_is)
    (case tf_ShelfError => k_is)
    (case sb_NoText_ShelfError => k_is)
    (case e_n => k_is)
    (case e_t => k_is)
    (case eg_NoText => k_is)
    (case ek_NoText => k_is)
    (case hd_NoText => k_is)
    (case ea_NoText => k_is)
    (case em_NoText => k_is)
    (case kv_NoText => k_is)
    (case kn_NoText_Full => first | rfl | decide)
    (case hd_Full => k_is)
    (case tf_Full => k_is)
    (case sb_NoText_Full => k_is)
    (case kn_NoText_NoKey => first | rfl | decide)
    (case hd_NoKey => k_is)
    (case tf_NoKey => k_is)
    (case sb_NoText_NoKey => k_is)
    (case kn_NoText_BadBounds => first | rfl | decide)
    (case hd_BadBounds => k_is)
    (case tf_BadBounds => k_is)
    (case sb_NoText_BadBounds => k_is)
    (case kn_NoText_BadDisk => first | rfl | decide)
    (case hd_BadDisk => k_is)
    (case tf_BadDisk => k_is)
    (case sb_NoText_BadDisk => k_is)
    (case kn_NoText_NoRow => first | rfl | decide)
    (case hd_NoRow => k_is)
    (case tf_NoRow => k_is)
    (case sb_NoText_NoRow => k_is)
    (case z_VE => k_is)
