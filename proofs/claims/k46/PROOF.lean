import PyProof.Rows.All
import HandS.ForMost
import HandS.IsInst
import HandS.Zip
import HandS.Flow
import HandS.More
import HandS.Conv
import KE.DataEq
import KE.DataFind
import KE.DataAny
import PyProof.Rows.ReprR
import HandS.SortInts
import HandS.Deep
import HandS.Style
import HandS.Rev
import HandS.RevRange
import KE.SortData
import PyProof.ReprLen
import PySem.Challenge.RW_pickboard_k46_tracks_tick_by_tick
set_option Elab.async false
set_option linter.all false
set_option maxRecDepth 100000
set_option maxHeartbeats 4000000
namespace QL
open PySem PySem.Spec PyProof.Rows L2

/-! ### pairs of lists -/
section
variable {α β : Type} {G G' : α → β → Prop}
theorem pr_len : ∀ {xs : List α} {ys : List β}, Paired G xs ys → xs.length = ys.length
  | _, _, .nil => rfl
  | _, _, .cons _ t => congrArg (· + 1) (pr_len t)
theorem pr_get : ∀ {xs : List α} {ys : List β} {i : Nat} {x : α}, Paired G xs ys → xs[i]? = some x → ∃ y, ys[i]? = some y ∧ G x y
  | _, _, _, _, .nil, e => by simp at e
  | _, _, 0, _, .cons r _, e => by simp at e; subst e; exact ⟨_, rfl, r⟩
  | _, _, i + 1, _, .cons _ t, e => by
    obtain ⟨y, h1, h2⟩ := pr_get (i := i) t (by simpa using e)
    exact ⟨y, by simpa using h1, h2⟩
theorem pr_get' : ∀ {xs : List α} {ys : List β} {i : Nat} {y : β}, Paired G xs ys → ys[i]? = some y → ∃ x, xs[i]? = some x ∧ G x y
  | _, _, _, _, .nil, e => by simp at e
  | _, _, 0, _, .cons r _, e => by simp at e; subst e; exact ⟨_, rfl, r⟩
  | _, _, i + 1, _, .cons _ t, e => by
    obtain ⟨y, h1, h2⟩ := pr_get' (i := i) t (by simpa using e)
    exact ⟨y, by simpa using h1, h2⟩
theorem pr_mono (h : ∀ a b, G a b → G' a b) : ∀ {xs : List α} {ys : List β}, Paired G xs ys → Paired G' xs ys
  | _, _, .nil => .nil
  | _, _, .cons r t => .cons (h _ _ r) (pr_mono h t)
theorem pr_append : ∀ {xs xs' : List α} {ys ys' : List β}, Paired G xs ys → Paired G xs' ys' → Paired G (xs ++ xs') (ys ++ ys')
  | _, _, _, _, .nil, s => s
  | _, _, _, _, .cons r t, s => .cons r (pr_append t s)
theorem pr_take : ∀ {xs : List α} {ys : List β} (n : Nat), Paired G xs ys → Paired G (xs.take n) (ys.take n)
  | _, _, 0, _ => .nil
  | _, _, _ + 1, .nil => .nil
  | _, _, n + 1, .cons r t => .cons r (pr_take n t)
theorem pr_drop : ∀ {xs : List α} {ys : List β} (n : Nat), Paired G xs ys → Paired G (xs.drop n) (ys.drop n)
  | _, _, 0, r => r
  | _, _, _ + 1, .nil => .nil
  | _, _, n + 1, .cons _ t => pr_drop n t
theorem pr_set {x : α} {y : β} (r : G x y) : ∀ {xs : List α} {ys : List β} (i : Nat), Paired G xs ys → Paired G (xs.set i x) (ys.set i y)
  | _, _, _, .nil => .nil
  | _, _, 0, .cons _ t => .cons r t
  | _, _, i + 1, .cons q t => .cons q (pr_set r i t)
theorem pr_reverse : ∀ {xs : List α} {ys : List β}, Paired G xs ys → Paired G xs.reverse ys.reverse
  | _, _, .nil => .nil
  | _, _, .cons r t => by
    rw [List.reverse_cons, List.reverse_cons]
    exact pr_append (pr_reverse t) (.cons r .nil)
theorem pr_erase : ∀ {xs : List α} {ys : List β} (i : Nat), Paired G xs ys → Paired G (xs.eraseIdx i) (ys.eraseIdx i)
  | _, _, _, .nil => .nil
  | _, _, 0, .cons _ t => t
  | _, _, i + 1, .cons q t => .cons q (pr_erase i t)
theorem pr_dropLast {xs : List α} {ys : List β} (h : Paired G xs ys) : Paired G xs.dropLast ys.dropLast := by
  rw [List.dropLast_eq_take, List.dropLast_eq_take, pr_len h]
  exact pr_take _ h
theorem pr_nil_iff {xs : List α} {ys : List β} (h : Paired G xs ys) : xs = [] ↔ ys = [] := by
  cases h with
  | nil => simp
  | cons _ _ => simp
theorem pr_map {γ : Type} {R : γ → β → Prop} {f : γ → α} (h : ∀ c b, R c b → G (f c) b) : ∀ {xs : List γ} {ys : List β}, Paired R xs ys → Paired G (xs.map f) ys
  | _, _, .nil => .nil
  | _, _, .cons r t => .cons (h _ _ r) (pr_map h t)
theorem pr_unmap {γ : Type} {R : γ → β → Prop} {f : γ → α} (h : ∀ c b, G (f c) b → R c b) : ∀ {xs : List γ} {ys : List β}, Paired G (xs.map f) ys → Paired R xs ys
  | [], _, .nil => .nil
  | _ :: _, _, .cons r t => .cons (h _ _ r) (pr_unmap h t)
end

/-! ### data held at a value -/
mutual
def Rp (K : PySem.W.Frag) (F : Hp) : PyData → V → Prop
  | .none, v => v = .non
  | .bool b, v => v = .bl b
  | .int i, v => v = .int i
  | .str x, v => v = .str x
  | .list ds, v => ∃ a vs, v = .ref a ∧ F a = some (.lst vs) ∧ RpA K F ds vs
  | .tuple ds, v => ∃ a vs, v = .ref a ∧ SqT K F a vs ∧ RpA K F ds vs
  | .dict _, _ => False
def RpA (K : PySem.W.Frag) (F : Hp) : List PyData → List V → Prop
  | [], vs => vs = []
  | d :: ds, vs => ∃ v r, vs = v :: r ∧ Rp K F d v ∧ RpA K F ds r
end
section
variable {K : PySem.W.Frag} {F F' H : Hp}
theorem same_t {a : Addr} {xs : List V} (e : Same F F') (h : SqT K F a xs) : SqT K F' a xs := by
  rcases h with (h | ⟨o, h⟩) | h
  · exact .inl (.inl (e _ _ h))
  · exact .inl (.inr ⟨o, e _ _ h⟩)
  · exact .inr h
theorem rpa_iff : ∀ {ds : List PyData} {vs : List V}, RpA K F ds vs ↔ Paired (Rp K F) ds vs
  | [], vs => by
    constructor
    · intro h
      have h' : vs = [] := by simpa [RpA] using h
      subst h'
      exact .nil
    · intro h
      cases h
      simp [RpA]
  | d :: ds, vs => by
    constructor
    · intro h
      have h' : ∃ v r, vs = v :: r ∧ Rp K F d v ∧ RpA K F ds r := by simpa [RpA] using h
      obtain ⟨v, r, rfl, h1, h2⟩ := h'
      exact .cons h1 (rpa_iff.mp h2)
    · intro h
      cases h with
      | cons h1 h2 =>
        simp only [RpA]
        exact ⟨_, _, rfl, h1, rpa_iff.mpr h2⟩
theorem rp_list {ds : List PyData} {v : V} : Rp K F (.list ds) v ↔ ∃ a vs, v = .ref a ∧ F a = some (.lst vs) ∧ Paired (Rp K F) ds vs := by
  simp only [Rp, rpa_iff]
theorem rp_tuple {ds : List PyData} {v : V} : Rp K F (.tuple ds) v ↔ ∃ a vs, v = .ref a ∧ SqT K F a vs ∧ Paired (Rp K F) ds vs := by
  simp only [Rp, rpa_iff]
theorem rp_int {i : Int} {v : V} : Rp K F (.int i) v ↔ v = .int i := by simp only [Rp]
theorem rp_bool {i : Bool} {v : V} : Rp K F (.bool i) v ↔ v = .bl i := by simp only [Rp]
theorem rp_str {i : Str} {v : V} : Rp K F (.str i) v ↔ v = .str i := by simp only [Rp]
theorem rp_none {v : V} : Rp K F .none v ↔ v = .non := by simp only [Rp]
theorem rp_dict {x} {v : V} : Rp K F (.dict x) v ↔ False := by simp only [Rp]
mutual
theorem rp_mono (e : Same F F') : ∀ (d : PyData) (v : V), Rp K F d v → Rp K F' d v
  | .none, _, h => by simpa [Rp] using h
  | .bool _, _, h => by simpa [Rp] using h
  | .int _, _, h => by simpa [Rp] using h
  | .str _, _, h => by simpa [Rp] using h
  | .list ds, v, h => by
    simp only [Rp] at h ⊢
    obtain ⟨a, vs, rfl, h1, h2⟩ := h
    exact ⟨a, vs, rfl, e _ _ h1, rpa_mono e ds vs h2⟩
  | .tuple ds, v, h => by
    simp only [Rp] at h ⊢
    obtain ⟨a, vs, rfl, h1, h2⟩ := h
    exact ⟨a, vs, rfl, same_t e h1, rpa_mono e ds vs h2⟩
  | .dict _, _, h => by simp [Rp] at h
theorem rpa_mono (e : Same F F') : ∀ (ds : List PyData) (vs : List V), RpA K F ds vs → RpA K F' ds vs
  | [], _, h => by simpa [RpA] using h
  | d :: ds, vs, h => by
    simp only [RpA] at h ⊢
    obtain ⟨v, r, rfl, h1, h2⟩ := h
    exact ⟨v, r, rfl, rp_mono e d v h1, rpa_mono e ds r h2⟩
end
mutual
theorem rp_dp : ∀ (d : PyData) (v : V), Rp K F d v → Dp K F v d
  | .none, _, h => by simp only [Rp] at h; subst h; exact .non
  | .bool _, _, h => by simp only [Rp] at h; subst h; exact .bl _
  | .int _, _, h => by simp only [Rp] at h; subst h; exact .int _
  | .str _, _, h => by simp only [Rp] at h; subst h; exact .str _
  | .list ds, v, h => by
    simp only [Rp] at h
    obtain ⟨a, vs, rfl, h1, h2⟩ := h
    exact .lst (.of h1) (rpa_dp ds vs h2)
  | .tuple ds, v, h => by
    simp only [Rp] at h
    obtain ⟨a, vs, rfl, h1, h2⟩ := h
    exact .tup h1 (rpa_dp ds vs h2)
  | .dict _, _, h => by simp [Rp] at h
theorem rpa_dp : ∀ (ds : List PyData) (vs : List V), RpA K F ds vs → DpAll K F vs ds
  | [], _, h => by simp only [RpA] at h; subst h; exact .nil
  | d :: ds, vs, h => by
    simp only [RpA] at h
    obtain ⟨v, r, rfl, h1, h2⟩ := h
    exact .cons (rp_dp d v h1) (rpa_dp ds r h2)
end
mutual
theorem rp_plain : ∀ (d : PyData) (v : V), Rp K F d v → d.plain = true
  | .none, _, _ => rfl
  | .bool _, _, _ => rfl
  | .int _, _, _ => rfl
  | .str _, _, _ => rfl
  | .list ds, v, h => by
    simp only [Rp] at h
    obtain ⟨a, vs, rfl, h1, h2⟩ := h
    simp only [PyData.plain]
    exact rpa_plain ds vs h2
  | .tuple ds, v, h => by
    simp only [Rp] at h
    obtain ⟨a, vs, rfl, h1, h2⟩ := h
    simp only [PyData.plain]
    exact rpa_plain ds vs h2
  | .dict _, _, h => by simp [Rp] at h
theorem rpa_plain : ∀ (ds : List PyData) (vs : List V), RpA K F ds vs → PyData.plainAll ds = true
  | [], _, _ => rfl
  | d :: ds, vs, h => by
    simp only [RpA] at h
    obtain ⟨v, r, rfl, h1, h2⟩ := h
    simp only [PyData.plainAll, rp_plain d v h1, rpa_plain ds r h2, Bool.and_self]
end
end

/-! ### values, cells, the store -/
inductive Val where
  | d (x : PyData) | c (k : Nat) | s (ns : List Int)
inductive Cell where
  | lst (xs : List Val) | frz (x : PyData)
abbrev Sto := List Cell
abbrev Rho := List (Option Val)

def RV (K : PySem.W.Frag) (F : Hp) (m : List Addr) : Val → V → Prop
  | .d x, v => Rp K F x v
  | .c k, v => ∃ a, m[k]? = some a ∧ v = .ref a
  | .s ns, v => ∃ a, v = .ref a ∧ SqL K F a (ns.map V.int)
def COk (K : PySem.W.Frag) (F H : Hp) (m : List Addr) (a : Addr) : Cell → Prop
  | .lst xs => F a = none ∧ ∃ vs, H a = some (.lst vs) ∧ Paired (RV K F m) xs vs
  | .frz x => Rp K F x (.ref a)
structure SOk (K : PySem.W.Frag) (F : Hp) (m : List Addr) (H : Hp) (S : Sto) : Prop where
  ex : Same F H
  len : m.length = S.length
  nd : m.Nodup
  tr : ∀ a ∈ m, H a ≠ none
  cell : ∀ (k : Nat) (a : Addr) (c : Cell), m[k]? = some a → S[k]? = some c → COk K F H m a c
structure Stp (F : Hp) (m : List Addr) (H : Hp) (F' : Hp) (m' : List Addr) (H' : Hp) : Prop where
  ex : Same F F'
  pre : ∃ t, m' = m ++ t
  new : ∀ a ∈ m', a ∈ m ∨ H a = none
  newF : ∀ a, F a = none → F' a ≠ none → a ∈ m ∨ H a = none
  fr : ∀ a o, H a = some o → a ∉ m → H' a = some o
structure ROk (K : PySem.W.Frag) (F : Hp) (m : List Addr) (ρ : Rho) (σ : L2.St) : Prop where
  len : ρ.length = σ.length
  get : ∀ (i : Nat) (a : Val), ρ[i]? = some (some a) → ∃ v, σ[i]? = some (some v) ∧ RV K F m a v

section
variable {K : PySem.W.Frag} {F F' F1 F2 H H' H1 H2 : Hp} {m m' m1 m2 : List Addr} {S S' : Sto} {ρ : Rho} {σ : L2.St}
theorem Stp.refl : Stp F m H F m H := ⟨Same.refl _, ⟨[], by simp⟩, fun _ h => .inl h, fun _ h h' => absurd h h', fun _ _ h _ => h⟩
theorem Stp.trans (a : Stp F m H F1 m1 H1) (b : Stp F1 m1 H1 F2 m2 H2) : Stp F m H F2 m2 H2 := by
  have key : ∀ x, x ∈ m1 ∨ H1 x = none → x ∈ m ∨ H x = none := fun x h => by
    rcases h with h | h
    · exact a.new x h
    · by_cases hm : x ∈ m
      · exact .inl hm
      · right
        cases e : H x with
        | none => rfl
        | some o => rw [a.fr x o e hm] at h; cases h
  refine ⟨a.ex.trans b.ex, ?_, fun x h => key x (b.new x h), fun x h h' => ?_, fun x o h hm => ?_⟩
  · obtain ⟨t, rfl⟩ := a.pre
    obtain ⟨u, rfl⟩ := b.pre
    exact ⟨t ++ u, by simp⟩
  · by_cases h1 : F1 x = none
    · exact key x (b.newF x h1 h')
    · exact a.newF x h h1
  · refine b.fr x o (a.fr x o h hm) fun h1 => ?_
    rcases a.new x h1 with q | q
    · exact hm q
    · rw [h] at q; cases q
theorem pre_get {k : Nat} {a : Addr} (p : ∃ t, m' = m ++ t) (h : m[k]? = some a) : m'[k]? = some a := by
  obtain ⟨t, rfl⟩ := p
  rw [List.getElem?_append_left (List.getElem?_eq_some_iff.mp h).1]
  exact h
theorem rv_mono (st : Stp F m H F' m' H') {a : Val} {v : V} (h : RV K F m a v) : RV K F' m' a v := by
  cases a with
  | d x => exact rp_mono st.ex x v h
  | c k =>
    obtain ⟨p, h1, h2⟩ := h
    exact ⟨p, pre_get st.pre h1, h2⟩
  | s ns =>
    obtain ⟨p, h1, h2⟩ := h
    exact ⟨p, h1, st.ex.seq h2⟩
theorem rv_int {i : Int} {v : V} : RV K F m (.d (.int i)) v ↔ v = .int i := rp_int (K := K) (F := F)
theorem rv_bool {i : Bool} {v : V} : RV K F m (.d (.bool i)) v ↔ v = .bl i := rp_bool (K := K) (F := F)
theorem rv_str {i : Str} {v : V} : RV K F m (.d (.str i)) v ↔ v = .str i := rp_str (K := K) (F := F)
theorem rv_none {v : V} : RV K F m (.d .none) v ↔ v = .non := rp_none (K := K) (F := F)
theorem rv_list {ds : List PyData} {v : V} : RV K F m (.d (.list ds)) v ↔ ∃ a vs, v = .ref a ∧ F a = some (.lst vs) ∧ Paired (Rp K F) ds vs := rp_list (K := K) (F := F)
theorem rv_tuple {ds : List PyData} {v : V} : RV K F m (.d (.tuple ds)) v ↔ ∃ a vs, v = .ref a ∧ SqT K F a vs ∧ Paired (Rp K F) ds vs := rp_tuple (K := K) (F := F)
theorem rvs_mono (st : Stp F m H F' m' H') {as : List Val} {vs : List V} (h : Paired (RV K F m) as vs) : Paired (RV K F' m') as vs := pr_mono (fun _ _ => rv_mono st) h
theorem ro_mono (st : Stp F m H F' m' H') (h : ROk K F m ρ σ) : ROk K F' m' ρ σ := ⟨h.len, fun i a e => by
  obtain ⟨v, h1, h2⟩ := h.get i a e
  exact ⟨v, h1, rv_mono st h2⟩⟩
theorem ROk.set (h : ROk K F m ρ σ) {a : Val} {v : V} (r : RV K F m a v) (i : Nat) : ROk K F m (ρ.set i (some a)) (σ.set i (some v)) := by
  refine ⟨by simp [h.len], fun j b e => ?_⟩
  by_cases hj : i = j
  · subst hj
    rw [List.getElem?_set] at e
    simp only [if_true] at e
    split at e
    · rename_i hl
      cases e
      refine ⟨v, ?_, r⟩
      rw [List.getElem?_set_self (by rw [← h.len]; exact hl)]
    · cases e
  · rw [List.getElem?_set_ne hj] at e
    obtain ⟨u, h1, h2⟩ := h.get j b e
    exact ⟨u, by rw [List.getElem?_set_ne hj]; exact h1, h2⟩
theorem ROk.clr (h : ROk K F m ρ σ) (i : Nat) : ROk K F m (ρ.set i none) σ := by
  refine ⟨by simp [h.len], fun j b e => ?_⟩
  by_cases hj : i = j
  · subst hj
    rw [List.getElem?_set] at e
    simp only [if_true] at e
    split at e <;> cases e
  · rw [List.getElem?_set_ne hj] at e
    exact h.get j b e
theorem ROk.clr2 (h : ROk K F m ρ σ) (i : Nat) : ROk K F m (ρ.set i none) (σ.set i none) := by
  refine ⟨by simp [h.len], fun j b e => ?_⟩
  by_cases hj : i = j
  · subst hj
    rw [List.getElem?_set] at e
    simp only [if_true] at e
    split at e <;> cases e
  · rw [List.getElem?_set_ne hj] at e
    obtain ⟨u, h1, h2⟩ := h.get j b e
    exact ⟨u, by rw [List.getElem?_set_ne hj]; exact h1, h2⟩
theorem SOk.none (h : SOk K F m H S) {p : Addr} (e : H p = none) : F p = none ∧ p ∉ m := by
  constructor
  · cases q : F p with
    | none => rfl
    | some o => rw [h.ex p o q] at e; cases e
  · exact fun hm => h.tr p hm e
/-- what is known of a cell when the frozen part and the heap grow or change elsewhere -/
theorem cok_keep {a : Addr} {c : Cell} (h : COk K F H m a c) (e : Same F F') (p : ∃ t, m' = m ++ t) (hn : F a = none → F' a = none) (hh : ∀ vs, H a = some (.lst vs) → H' a = some (.lst vs)) : COk K F' H' m' a c := by
  cases c with
  | lst xs =>
    obtain ⟨h1, vs, h2, h3⟩ := h
    refine ⟨hn h1, vs, hh vs h2, pr_mono (fun x v r => ?_) h3⟩
    cases x with
    | d x => exact rp_mono e x v r
    | c k =>
      obtain ⟨b, q1, q2⟩ := r
      exact ⟨b, pre_get p q1, q2⟩
    | s ns =>
      obtain ⟨b, q1, q2⟩ := r
      exact ⟨b, q1, e.seq q2⟩
  | frz x => exact rp_mono e x _ h

/-- a new list, a live cell -/
theorem al_N (ok : SOk K F m H S) {p : Addr} {xs : List Val} {vs : List V} (hp : H p = none) (hv : Paired (RV K F m) xs vs) :
    SOk K F (m ++ [p]) (upd H p (.lst vs)) (S ++ [.lst xs]) ∧ Stp F m H F (m ++ [p]) (upd H p (.lst vs)) ∧ RV K F (m ++ [p]) (.c S.length) (.ref p) := by
  obtain ⟨hF, hm⟩ := ok.none hp
  have st : Stp F m H F (m ++ [p]) (upd H p (.lst vs)) := by
    refine ⟨Same.refl _, ⟨[p], rfl⟩, fun a ha => ?_, fun _ h h' => absurd h h', fun a o h ha => ?_⟩
    · rcases List.mem_append.mp ha with q | q
      · exact .inl q
      · right
        rw [List.mem_singleton.mp q]; exact hp
    · rw [upd_ne (ne_of_none h hp)]; exact h
  refine ⟨⟨fun a o h => ?_, ?_, ?_, fun a ha => ?_, fun k a c h1 h2 => ?_⟩, st, p, ?_, rfl⟩
  · have hq := ok.ex a o h
    rw [upd_ne (ne_of_none hq hp)]; exact hq
  · simp [ok.len]
  · rw [List.nodup_append]
    refine ⟨ok.nd, by simp, fun a ha b hb => ?_⟩
    rw [List.mem_singleton.mp hb]
    intro e
    exact hm (e ▸ ha)
  · rcases List.mem_append.mp ha with q | q
    · have hne : a ≠ p := fun e => hm (e ▸ q)
      rw [upd_ne hne]; exact ok.tr a q
    · rw [List.mem_singleton.mp q, upd_same]; simp
  · by_cases hk : k < m.length
    · rw [List.getElem?_append_left hk] at h1
      rw [List.getElem?_append_left (by rw [← ok.len]; exact hk)] at h2
      have hne : a ≠ p := fun e => hm (e ▸ List.mem_of_getElem? h1)
      exact cok_keep (ok.cell k a c h1 h2) (Same.refl _) ⟨[p], rfl⟩ (fun q => q) fun vs q => by rw [upd_ne hne]; exact q
    · have ek : k = m.length := by
        have := (List.getElem?_eq_some_iff.mp h1).1
        simp at this
        omega
      subst ek
      rw [List.getElem?_append_right (Nat.le_refl _)] at h1
      simp at h1
      subst h1
      rw [ok.len, List.getElem?_append_right (Nat.le_refl _)] at h2
      simp at h2
      subst h2
      exact ⟨hF, vs, upd_same, rvs_mono st hv⟩
  · rw [← ok.len, List.getElem?_append_right (Nat.le_refl _)]; simp
/-- a new object that is never to change -/
theorem al_F (ok : SOk K F m H S) {p : Addr} {o : HO} (hp : H p = none) :
    SOk K (upd F p o) m (upd H p o) S ∧ Stp F m H (upd F p o) m (upd H p o) := by
  obtain ⟨hF, hm⟩ := ok.none hp
  have ex : Same F (upd F p o) := fun a u h => by rw [upd_ne (ne_of_none h hF)]; exact h
  refine ⟨⟨fun a u h => ?_, ok.len, ok.nd, fun a ha => ?_, fun k a c h1 h2 => ?_⟩, ⟨ex, ⟨[], by simp⟩, fun a ha => .inl ha, fun a h h' => ?_, fun a u h ha => ?_⟩⟩
  · by_cases e : a = p
    · subst e; rw [upd_same] at h ⊢; exact h
    · rw [upd_ne e] at h ⊢; exact ok.ex a u h
  · have hne : a ≠ p := fun e => hm (e ▸ ha)
    rw [upd_ne hne]; exact ok.tr a ha
  · have hne : a ≠ p := fun e => hm (e ▸ List.mem_of_getElem? h1)
    exact cok_keep (ok.cell k a c h1 h2) ex ⟨[], by simp⟩ (fun q => by rw [upd_ne hne]; exact q) fun vs q => by rw [upd_ne hne]; exact q
  · by_cases e : a = p
    · subst e; exact .inr hp
    · rw [upd_ne e] at h'; exact absurd h h'
  · rw [upd_ne (ne_of_none h hp)]; exact h
/-- a live cell changed -/
theorem al_M (ok : SOk K F m H S) {k : Nat} {a : Addr} {xs : List Val} {ys : List Val} {vs : List V} (hm : m[k]? = some a) (hS : S[k]? = some (.lst xs)) (hv : Paired (RV K F m) ys vs) :
    SOk K F m (upd H a (.lst vs)) (S.set k (.lst ys)) ∧ Stp F m H F m (upd H a (.lst vs)) := by
  obtain ⟨hF, ws, hw, _⟩ := ok.cell k a _ hm hS
  have hmem := List.mem_of_getElem? hm
  refine ⟨⟨fun b o h => ?_, by simp [ok.len], ok.nd, fun b hb => ?_, fun j b c h1 h2 => ?_⟩, ⟨Same.refl _, ⟨[], by simp⟩, fun b hb => .inl hb, fun b h h' => absurd h h', fun b o h hb => ?_⟩⟩
  · have hne : b ≠ a := fun e => by rw [e, hF] at h; cases h
    rw [upd_ne hne]; exact ok.ex b o h
  · by_cases e : b = a
    · subst e; rw [upd_same]; simp
    · rw [upd_ne e]; exact ok.tr b hb
  · by_cases e : j = k
    · subst e
      rw [hm] at h1; cases h1
      rw [List.getElem?_set_self (List.getElem?_eq_some_iff.mp hS).1] at h2
      cases h2
      exact ⟨hF, vs, upd_same, hv⟩
    · rw [List.getElem?_set_ne (fun q => e q.symm)] at h2
      have hne : b ≠ a := fun q => by
        subst q
        exact e (nd_ix ok.nd h1 hm)
      exact cok_keep (ok.cell j b c h1 h2) (Same.refl _) ⟨[], by simp⟩ (fun q => q) fun vs q => by rw [upd_ne hne]; exact q
  · have hne : b ≠ a := fun e => hb (e ▸ hmem)
    rw [upd_ne hne]; exact h
/-- an object that the store does not know is changed -/
theorem al_O (ok : SOk K F m H S) {p : Addr} {o : HO} (hF : F p = none) (hm : p ∉ m) : SOk K F m (upd H p o) S := by
  refine ⟨fun b u h => ?_, ok.len, ok.nd, fun b hb => ?_, fun j b c h1 h2 => ?_⟩
  · have hne : b ≠ p := fun e => by rw [e, hF] at h; cases h
    rw [upd_ne hne]; exact ok.ex b u h
  · have hne : b ≠ p := fun e => hm (e ▸ hb)
    rw [upd_ne hne]; exact ok.tr b hb
  · have hne : b ≠ p := fun e => hm (e ▸ List.mem_of_getElem? h1)
    exact cok_keep (ok.cell j b c h1 h2) (Same.refl _) ⟨[], by simp⟩ (fun q => q) fun vs q => by rw [upd_ne hne]; exact q
/-- an object that the store does not know comes to it as frozen -/
theorem al_P (ok : SOk K F m H S) {p : Addr} {o : HO} (hp : H p = some o) (hF : F p = none) (hm : p ∉ m) : SOk K (upd F p o) m H S := by
  have ex : Same F (upd F p o) := fun a u h => by rw [upd_ne (ne_of_none h hF)]; exact h
  refine ⟨fun a u h => ?_, ok.len, ok.nd, ok.tr, fun k a c h1 h2 => ?_⟩
  · by_cases e : a = p
    · subst e; rw [upd_same] at h; cases h; exact hp
    · rw [upd_ne e] at h; exact ok.ex a u h
  · have hne : a ≠ p := fun e => hm (e ▸ List.mem_of_getElem? h1)
    exact cok_keep (ok.cell k a c h1 h2) ex ⟨[], by simp⟩ (fun q => by rw [upd_ne hne]; exact q) fun vs q => q
/-- .. or as a live cell -/
theorem al_Q (ok : SOk K F m H S) {p : Addr} {xs : List Val} {vs : List V} (hp : H p = some (.lst vs)) (hF : F p = none) (hm : p ∉ m) (hv : Paired (RV K F m) xs vs) : SOk K F (m ++ [p]) H (S ++ [.lst xs]) ∧ RV K F (m ++ [p]) (.c S.length) (.ref p) := by
  refine ⟨⟨ok.ex, by simp [ok.len], ?_, fun a ha => ?_, fun k a c h1 h2 => ?_⟩, p, ?_, rfl⟩
  · rw [List.nodup_append]
    refine ⟨ok.nd, by simp, fun a ha b hb => ?_⟩
    rw [List.mem_singleton.mp hb]
    intro e
    exact hm (e ▸ ha)
  · rcases List.mem_append.mp ha with q | q
    · exact ok.tr a q
    · rw [List.mem_singleton.mp q, hp]; simp
  · have st : ∀ x v, RV K F m x v → RV K F (m ++ [p]) x v := fun x v r => by
      cases x with
      | d x => exact r
      | c k =>
        obtain ⟨b, q1, q2⟩ := r
        exact ⟨b, pre_get ⟨[p], rfl⟩ q1, q2⟩
      | s ns => exact r
    by_cases hk : k < m.length
    · rw [List.getElem?_append_left hk] at h1
      rw [List.getElem?_append_left (by rw [← ok.len]; exact hk)] at h2
      exact cok_keep (ok.cell k a c h1 h2) (Same.refl _) ⟨[p], rfl⟩ (fun q => q) fun vs q => q
    · have ek : k = m.length := by
        have := (List.getElem?_eq_some_iff.mp h1).1
        simp at this
        omega
      subst ek
      rw [List.getElem?_append_right (Nat.le_refl _)] at h1
      simp at h1
      subst h1
      rw [ok.len, List.getElem?_append_right (Nat.le_refl _)] at h2
      simp at h2
      subst h2
      exact ⟨hF, vs, hp, pr_mono st hv⟩
  · rw [← ok.len, List.getElem?_append_right (Nat.le_refl _)]; simp
/-- a live cell becomes frozen -/
theorem al_Z (ok : SOk K F m H S) {k : Nat} {a : Addr} {xs : List Val} {ds : List PyData} {vs : List V} (hm : m[k]? = some a) (hS : S[k]? = some (.lst xs)) (hH : H a = some (.lst vs)) (hv : Paired (Rp K F) ds vs) :
    SOk K (upd F a (.lst vs)) m H (S.set k (.frz (.list ds))) ∧ Stp F m H (upd F a (.lst vs)) m H ∧ Rp K (upd F a (.lst vs)) (.list ds) (.ref a) := by
  obtain ⟨hF, ws, hw, _⟩ := ok.cell k a _ hm hS
  have hmem := List.mem_of_getElem? hm
  have ex : Same F (upd F a (.lst vs)) := fun b u h => by rw [upd_ne (ne_of_none h hF)]; exact h
  have hR : Rp K (upd F a (.lst vs)) (.list ds) (.ref a) := rp_list.mpr ⟨a, vs, rfl, upd_same, pr_mono (fun x v => rp_mono ex x v) hv⟩
  refine ⟨⟨fun b o h => ?_, by simp [ok.len], ok.nd, ok.tr, fun j b c h1 h2 => ?_⟩, ⟨ex, ⟨[], by simp⟩, fun b hb => .inl hb, fun b h h' => ?_, fun b o h hb => h⟩, hR⟩
  · by_cases e : b = a
    · subst e; rw [upd_same] at h; cases h; exact hH
    · rw [upd_ne e] at h; exact ok.ex b o h
  · by_cases e : j = k
    · subst e
      rw [hm] at h1; cases h1
      rw [List.getElem?_set_self (List.getElem?_eq_some_iff.mp hS).1] at h2
      cases h2
      exact hR
    · rw [List.getElem?_set_ne (fun q => e q.symm)] at h2
      have hne : b ≠ a := fun q => by
        subst q
        exact e (nd_ix ok.nd h1 hm)
      exact cok_keep (ok.cell j b c h1 h2) ex ⟨[], by simp⟩ (fun q => by rw [upd_ne hne]; exact q) fun vs q => q
  · by_cases e : b = a
    · subst e; exact .inl hmem
    · rw [upd_ne e] at h'; exact absurd h h'
end

/-! ### looks at a value -/
def mapO {α β : Type} (f : α → Option β) : List α → Option (List β)
  | [] => some []
  | a :: r => (f a).bind fun b => (mapO f r).map (b :: ·)
def unD : List Val → Option (List PyData) := mapO fun a => match a with | .d x => some x | _ => none
def peek : Nat → Sto → Val → Option PyData
  | _, _, .d x => some x
  | 0, _, .c _ => none
  | _, _, .s _ => none
  | n + 1, S, .c k => match S[k]? with
    | some (.frz x) => some x
    | some (.lst xs) => (mapO (peek n S) xs).map PyData.list
    | none => none
/-- as data -/
def look (S : Sto) (a : Val) : Option PyData := peek 6 S a
/-- the items of a list -/
def viewS (S : Sto) : Val → Option (List Val)
  | .d (.list ds) => some (ds.map .d)
  | .c k => match S[k]? with
    | some (.lst xs) => some xs
    | some (.frz (.list ds)) => some (ds.map .d)
    | _ => none
  | _ => none
def viewL (S : Sto) : Val → Option (List Val)
  | .s ns => some (ns.map fun i => .d (.int i))
  | v => viewS S v
theorem viewS_d (S : Sto) (ds : List PyData) : viewS S (.d (.list ds)) = some (ds.map .d) := rfl
theorem viewS_c {S : Sto} {k : Nat} {xs : List Val} (h : S[k]? = some (.lst xs)) : viewS S (.c k) = some xs := by simp only [viewS, h]
theorem look_d (S : Sto) (x : PyData) : look S (.d x) = some x := rfl
theorem viewL_d (S : Sto) (ds : List PyData) : viewL S (.d (.list ds)) = some (ds.map .d) := rfl
theorem mapO_d {α : Type} {f : Val → Option α} {g : PyData → α} (h : ∀ x, f (.d x) = some (g x)) : ∀ ds : List PyData, mapO f (ds.map .d) = some (ds.map g)
  | [] => rfl
  | d :: ds => by
    rw [List.map_cons, mapO, h d, mapO_d h ds]
    rfl
theorem unD_d (ds : List PyData) : unD (ds.map .d) = some ds := by
  have := mapO_d (f := fun a => match a with | .d x => some x | _ => none) (g := id) (fun _ => rfl) ds
  rw [List.map_id] at this
  exact this
theorem peek_c {S : Sto} {k : Nat} {ds : List PyData} (n : Nat) (h : S[k]? = some (.lst (ds.map .d))) : peek (n + 1) S (.c k) = some (.list ds) := by
  have e : mapO (peek n S) (ds.map .d) = some ds := by
    have := mapO_d (f := peek n S) (g := id) (fun _ => by cases n <;> rfl) ds
    rw [List.map_id] at this
    exact this
  simp only [peek, h, e, Option.map]
theorem look_c {S : Sto} {k : Nat} {ds : List PyData} (h : S[k]? = some (.lst (ds.map .d))) : look S (.c k) = some (.list ds) := peek_c 5 h
theorem viewL_c {S : Sto} {k : Nat} {xs : List Val} (h : S[k]? = some (.lst xs)) : viewL S (.c k) = some xs := by simp only [viewL, viewS, h]
section
variable {K : PySem.W.Frag} {F F' F1 F2 H H' H1 H2 : Hp} {m m' m1 m2 : List Addr} {S S' : Sto} {ρ : Rho} {σ : L2.St}
theorem unD_ok : ∀ {xs : List Val} {ds : List PyData} {vs : List V}, unD xs = some ds → Paired (RV K F m) xs vs → Paired (Rp K F) ds vs
  | [], ds, _, h, .nil => by cases h; exact .nil
  | .d x :: xs, ds, _, h, .cons r t => by
    have h' : (unD xs).map (x :: ·) = some ds := h
    cases e : unD xs with
    | none => rw [e] at h'; cases h'
    | some bs => rw [e] at h'; cases h'; exact .cons r (unD_ok e t)
  | .c _ :: _, _, _, h, _ => by cases h
  | .s _ :: _, _, _, h, _ => by cases h
theorem mapO_ok {f : Val → Option PyData} (hf : ∀ a x v, f a = some x → RV K F m a v → Rp K H x v) : ∀ {xs : List Val} {ds : List PyData} {vs : List V}, mapO f xs = some ds → Paired (RV K F m) xs vs → Paired (Rp K H) ds vs
  | [], ds, _, h, .nil => by cases h; exact .nil
  | a :: xs, ds, _, h, .cons r t => by
    have h' : ((f a).bind fun b => (mapO f xs).map (b :: ·)) = some ds := h
    cases e1 : f a with
    | none => rw [e1] at h'; cases h'
    | some b =>
      rw [e1, Option.bind_some] at h'
      cases e : mapO f xs with
      | none => rw [e] at h'; cases h'
      | some bs => rw [e] at h'; cases h'; exact .cons (hf _ _ _ e1 r) (mapO_ok hf e t)
theorem peek_ok (ok : SOk K F m H S) : ∀ (n : Nat) (a : Val) (x : PyData) (v : V), peek n S a = some x → RV K F m a v → Rp K H x v
  | 0, .d _, x, v, h, r => by
    cases h; exact rp_mono ok.ex _ _ r
  | n + 1, .d _, x, v, h, r => by
    cases h; exact rp_mono ok.ex _ _ r
  | 0, .c _, _, _, h, _ => by cases h
  | 0, .s _, _, _, h, _ => by cases h
  | _ + 1, .s _, _, _, h, _ => by cases h
  | n + 1, .c k, x, v, h, r => by
    obtain ⟨a, hm, rfl⟩ := r
    rw [peek] at h
    cases e : S[k]? with
    | none => rw [e] at h; cases h
    | some c =>
      rw [e] at h
      have hc := ok.cell k a c hm e
      cases c with
      | frz y => cases h; exact rp_mono ok.ex _ _ hc
      | lst xs =>
        obtain ⟨_, vs, h2, h3⟩ := hc
        have h : (mapO (peek n S) xs).map PyData.list = some x := h
        cases e2 : mapO (peek n S) xs with
        | none => rw [e2] at h; cases h
        | some ds =>
          rw [e2] at h; cases h
          exact rp_list.mpr ⟨a, vs, rfl, h2, mapO_ok (fun a x v => peek_ok ok n a x v) e2 h3⟩
theorem look_ok (ok : SOk K F m H S) {a : Val} {x : PyData} {v : V} (h : look S a = some x) (r : RV K F m a v) : Rp K H x v := peek_ok ok 6 a x v h r
theorem rp_rvs {ds : List PyData} {vs : List V} (h : Paired (Rp K F) ds vs) : Paired (RV K F m) (ds.map .d) vs := pr_map (f := Val.d) (fun _ _ r => r) h
theorem viewS_ok (ok : SOk K F m H S) {a : Val} {xs : List Val} {v : V} (h : viewS S a = some xs) (r : RV K F m a v) : ∃ p vs, v = .ref p ∧ H p = some (.lst vs) ∧ Paired (RV K F m) xs vs := by
  have fz : ∀ ds, Rp K F (.list ds) v → xs = ds.map .d → ∃ p vs, v = .ref p ∧ H p = some (.lst vs) ∧ Paired (RV K F m) xs vs := fun ds hr e => by
    obtain ⟨p, vs, rfl, h1, h2⟩ := rp_list.mp hr
    subst e
    exact ⟨p, vs, rfl, ok.ex _ _ h1, rp_rvs h2⟩
  cases a with
  | d x =>
    cases x with
    | list ds => cases h; exact fz ds r rfl
    | _ => cases h
  | s ns => cases h
  | c k =>
    obtain ⟨p, hm, rfl⟩ := r
    rw [viewS] at h
    cases e : S[k]? with
    | none => rw [e] at h; cases h
    | some c =>
      rw [e] at h
      have hc := ok.cell k p c hm e
      cases c with
      | lst ys =>
        cases h
        obtain ⟨_, vs, h2, h3⟩ := hc
        exact ⟨p, vs, rfl, h2, h3⟩
      | frz y =>
        cases y with
        | list ds => cases h; exact fz ds hc rfl
        | _ => cases h
theorem ints_rvs : ∀ ns : List Int, Paired (RV K F m) (ns.map fun i => .d (.int i)) (ns.map V.int)
  | [] => .nil
  | n :: ns => by
    have h : RV K F m (.d (.int n)) (.int n) := (rp_int (K := K) (F := F) (i := n)).mpr rfl
    exact .cons h (ints_rvs ns)
theorem viewL_ok (ok : SOk K F m H S) {a : Val} {xs : List Val} {v : V} (h : viewL S a = some xs) (r : RV K F m a v) : ∃ p vs, v = .ref p ∧ SqL K H p vs ∧ Paired (RV K F m) xs vs := by
  have other : viewS S a = some xs → ∃ p vs, v = .ref p ∧ SqL K H p vs ∧ Paired (RV K F m) xs vs := fun h => by
    obtain ⟨p, vs, e, h1, h2⟩ := viewS_ok ok h r
    exact ⟨p, vs, e, .of h1, h2⟩
  cases a with
  | d x => exact other h
  | c k => exact other h
  | s ns =>
    cases h
    obtain ⟨p, rfl, h1⟩ := r
    exact ⟨p, _, rfl, ok.ex.seq h1, ints_rvs ns⟩
end
end QL

namespace QL
open PySem PySem.Spec PyProof.Rows L2

/-! ### what follows -/
def Kt (K : PySem.W.Frag) (F : Hp) (m : List Addr) (H : Hp) (Q : VK) (r : Val) (S' : Sto) : Prop := ∀ v F' m' H', Stp F m H F' m' H' → SOk K F' m' H' S' → RV K F' m' r v → Q v H'
def KtT (K : PySem.W.Frag) (F : Hp) (m : List Addr) (H : Hp) (Q : Bool → Hp → Prop) (r : Bool) (S' : Sto) : Prop := ∀ F' m' H', Stp F m H F' m' H' → SOk K F' m' H' S' → Q r H'
def KtA (K : PySem.W.Frag) (F : Hp) (m : List Addr) (H : Hp) (Q : List V → Hp → Prop) (rs : List Val) (S' : Sto) : Prop := ∀ vs F' m' H', Stp F m H F' m' H' → SOk K F' m' H' S' → Paired (RV K F' m') rs vs → Q vs H'
abbrev Ef := Rho → Sto → Option (Val × Sto)
abbrev Tf := Rho → Sto → Option (Bool × Sto)
abbrev Af := Rho → Sto → Option (List Val × Sto)
/-- the reading of a plain function -/
def tE (K : PySem.W.Frag) (f : Ef) : TE := fun σ H Q => ∃ F m S ρ r S', SOk K F m H S ∧ ROk K F m ρ σ ∧ f ρ S = some (r, S') ∧ Kt K F m H Q r S'
def tT (K : PySem.W.Frag) (f : Tf) : TT := fun σ H Q => ∃ F m S ρ r S', SOk K F m H S ∧ ROk K F m ρ σ ∧ f ρ S = some (r, S') ∧ KtT K F m H Q r S'
def tA (K : PySem.W.Frag) (f : Af) : TA := fun σ H Q => ∃ F m S ρ r S', SOk K F m H S ∧ ROk K F m ρ σ ∧ f ρ S = some (r, S') ∧ KtA K F m H Q r S'
def SndE (K : PySem.W.Frag) (t : TE) (f : Ef) : Prop := ∀ ⦃F m H S ρ σ r S'⦄, SOk K F m H S → ROk K F m ρ σ → f ρ S = some (r, S') → ∀ Q : VK, Kt K F m H Q r S' → t σ H Q
def SndT (K : PySem.W.Frag) (t : TT) (f : Tf) : Prop := ∀ ⦃F m H S ρ σ r S'⦄, SOk K F m H S → ROk K F m ρ σ → f ρ S = some (r, S') → ∀ Q : Bool → Hp → Prop, KtT K F m H Q r S' → t σ H Q
def SndA (K : PySem.W.Frag) (t : TA) (f : Af) : Prop := ∀ ⦃F m H S ρ σ r S'⦄, SOk K F m H S → ROk K F m ρ σ → f ρ S = some (r, S') → ∀ Q : List V → Hp → Prop, KtA K F m H Q r S' → t σ H Q
/-- expression e behaves as f -/
def EE (X : Cx) (e : Expr) (f : Ef) : Prop := PE X e (tE X.K f)
def ET (X : Cx) (e : Expr) (f : Tf) : Prop := PT X e (tT X.K f)
def EW (X : Cx) (e : Expr) (f : Tf) : Prop := PW X e (tT X.K f)
def EA (X : Cx) (es : List Expr) (f : Af) : Prop := PA X es (tA X.K f)

section
variable {X : Cx} {K : PySem.W.Frag}
theorem ee_of {e : Expr} {t : TE} {f : Ef} (h : PE X e t) (s : SndE X.K t f) : EE X e f :=
  ⟨fun pins s' σ H Q I ⟨_, _, _, _, _, _, ok, ro, e, k⟩ => h.run pins s' σ H Q I (s ok ro e Q k)⟩
theorem et_of {e : Expr} {t : TT} {f : Tf} (h : PT X e t) (s : SndT X.K t f) : ET X e f :=
  ⟨fun pins s' σ H Q I ⟨_, _, _, _, _, _, ok, ro, e, k⟩ => h.run pins s' σ H Q I (s ok ro e Q k)⟩
theorem ew_of {e : Expr} {t : TT} {f : Tf} (h : PW X e t) (s : SndT X.K t f) : EW X e f :=
  ⟨fun wh pins s' σ H Q I ⟨_, _, _, _, _, _, ok, ro, e, k⟩ => h.run wh pins s' σ H Q I (s ok ro e Q k)⟩
theorem ea_of {es : List Expr} {t : TA} {f : Af} (h : PA X es t) (s : SndA X.K t f) : EA X es f :=
  ⟨fun pos pins s' σ H Q I ⟨_, _, _, _, _, _, ok, ro, e, k⟩ => h.run pos pins s' σ H Q I (s ok ro e Q k)⟩
theorem sndE {f : Ef} : SndE K (tE K f) f := fun _ _ _ _ _ _ _ _ ok ro e _ k => ⟨_, _, _, _, _, _, ok, ro, e, k⟩
theorem sndT {f : Tf} : SndT K (tT K f) f := fun _ _ _ _ _ _ _ _ ok ro e _ k => ⟨_, _, _, _, _, _, ok, ro, e, k⟩
theorem sndA {f : Af} : SndA K (tA K f) f := fun _ _ _ _ _ _ _ _ ok ro e _ k => ⟨_, _, _, _, _, _, ok, ro, e, k⟩
theorem Kt.on {F F1 : Hp} {m m1 : List Addr} {H H1 : Hp} {Q : VK} {r : Val} {S' : Sto} (st : Stp F m H F1 m1 H1) (k : Kt K F m H Q r S') : Kt K F1 m1 H1 Q r S' := fun v F' m' H' s2 ok r => k v F' m' H' (st.trans s2) ok r
theorem KtT.on {F F1 : Hp} {m m1 : List Addr} {H H1 : Hp} {Q : Bool → Hp → Prop} {r : Bool} {S' : Sto} (st : Stp F m H F1 m1 H1) (k : KtT K F m H Q r S') : KtT K F1 m1 H1 Q r S' := fun F' m' H' s2 ok => k F' m' H' (st.trans s2) ok
theorem KtA.on {F F1 : Hp} {m m1 : List Addr} {H H1 : Hp} {Q : List V → Hp → Prop} {r : List Val} {S' : Sto} (st : Stp F m H F1 m1 H1) (k : KtA K F m H Q r S') : KtA K F1 m1 H1 Q r S' := fun v F' m' H' s2 ok r => k v F' m' H' (st.trans s2) ok r
theorem Kt.here {F : Hp} {m : List Addr} {H : Hp} {Q : VK} {r : Val} {S' : Sto} {v : V} (k : Kt K F m H Q r S') (ok : SOk K F m H S') (hv : RV K F m r v) : Q v H := k v F m H Stp.refl ok hv
theorem KtT.here {F : Hp} {m : List Addr} {H : Hp} {Q : Bool → Hp → Prop} {r : Bool} {S' : Sto} (k : KtT K F m H Q r S') (ok : SOk K F m H S') : Q r H := k F m H Stp.refl ok

/-! ### binding -/
/-- one after the other -/
def bnd {α β : Type} (x : Option (α × Sto)) (f : α → Sto → Option (β × Sto)) : Option (β × Sto) := match x with
  | some (a, S) => f a S
  | none => none
theorem bnd_some {α β : Type} (a : α) (S : Sto) (f : α → Sto → Option (β × Sto)) : bnd (some (a, S)) f = f a S := rfl
theorem bnd_none {α β : Type} (f : α → Sto → Option (β × Sto)) : bnd none f = none := rfl
theorem bnd_inv {α β : Type} {x : Option (α × Sto)} {f : α → Sto → Option (β × Sto)} {r : β × Sto} (h : bnd x f = some r) : ∃ a S, x = some (a, S) ∧ f a S = some r := by
  cases x with
  | none => cases h
  | some p => exact ⟨p.1, p.2, rfl, h⟩

/-! ### names, constants -/
def eVar (i : Nat) : Ef := fun ρ S => match ρ[i]? with
  | some (some v) => some (v, S)
  | _ => none
def eC (x : PyData) : Ef := fun _ S => some (.d x, S)
theorem ev (i : Nat) {x : Str} {pos : Pos} (hN : X.N[i]? = some x := by rfl) (hv : Vis X.env.scope x := by first | exact Or.inl rfl | exact Or.inr (Or.inl rfl) | exact Or.inr (Or.inr rfl)) (hd : (x == ("__debug__" : Str)) = false := by decide)
    (hcd : (x == ("__classdict__" : Str)) = false := by decide) : EE X (.Name x pos) (eVar i) :=
  ee_of (pe_var hN hv hd hcd) fun F m H S ρ σ r S' ok ro e Q k => by
    unfold eVar at e
    split at e
    · rename_i v hv'
      cases e
      obtain ⟨u, h1, h2⟩ := ro.get i _ hv'
      exact ⟨u, h1, k.here ok h2⟩
    · cases e
theorem ee_cst {e : Expr} {v : V} {d : PyData} (h : PE X e (tC v)) (hd : ∀ F, Rp X.K F d v) : EE X e (eC d) :=
  ee_of h fun F m H S ρ σ r S' ok ro e Q k => by
    cases e
    exact k.here ok (hd F)
theorem ei {i : Int} {j pos} : EE X (.Constant (.int i) j pos) (eC (.int i)) := ee_cst pe_int fun _ => rp_int.mpr rfl
theorem ebl {b : Bool} {j pos} : EE X (.Constant (.bool b) j pos) (eC (.bool b)) := ee_cst pe_bl fun _ => rp_bool.mpr rfl
theorem eno {j pos} : EE X (.Constant .none j pos) (eC .none) := ee_cst pe_non fun _ => rp_none.mpr rfl
theorem estr {x : Str} {j pos} : EE X (.Constant (.str x) j pos) (eC (.str x)) := ee_cst pe_str fun _ => rp_str.mpr rfl
/-- a constant of the module: an int, a text -/
theorem ee_gI {x : Str} {i : Int} {t : Tok} {pos : Pos} (hm : X.mg x = some (.int i t)) (hg : Gl X x := by rfl) (hd : (x == ("__debug__" : Str)) = false := by decide) : EE X (.Name x pos) (eC (.int i)) := ee_cst (pe_glob hg hm (show RelV (.int i) _ from ⟨t, rfl⟩) hd) fun _ => rp_int.mpr rfl
theorem ee_gS {x : Str} {i : Str} {t : Tok} {pos : Pos} (hm : X.mg x = some (.str i t)) (hg : Gl X x := by rfl) (hd : (x == ("__debug__" : Str)) = false := by decide) : EE X (.Name x pos) (eC (.str i)) := ee_cst (pe_glob hg hm (show RelV (.str i) _ from ⟨t, rfl⟩) hd) fun _ => rp_str.mpr rfl

/-! ### operators -/
def RB (K : PySem.W.Frag) (r : R2) (g : Val → Val → Sto → Option (Val × Sto)) : Prop := ∀ ⦃F m H S a b v u res S'⦄, SOk K F m H S → RV K F m a v → RV K F m b u → g a b S = some (res, S') → ∀ Q : VK, Kt K F m H Q res S' → r v u H Q
def OpG (X : Cx) (f : Value → Value → Sem Value) (g : Val → Val → Sto → Option (Val × Sto)) : Prop := ∃ r, OpR X f r ∧ RB X.K r g
def RU (K : PySem.W.Frag) (r : V → Hp → VK → Prop) (g : Val → Sto → Option (Val × Sto)) : Prop := ∀ ⦃F m H S a v res S'⦄, SOk K F m H S → RV K F m a v → g a S = some (res, S') → ∀ Q : VK, Kt K F m H Q res S' → r v H Q
def RC (K : PySem.W.Frag) (r : List V → Hp → VK → Prop) (g : List Val → Sto → Option (Val × Sto)) : Prop := ∀ ⦃F m H S as vs res S'⦄, SOk K F m H S → Paired (RV K F m) as vs → g as S = some (res, S') → ∀ Q : VK, Kt K F m H Q res S' → r vs H Q
def CallG (X : Cx) (f : Value) (g : List Val → Sto → Option (Val × Sto)) : Prop := ∃ r, CallR X f r ∧ RC X.K r g
def alt2 (g h : Val → Val → Sto → Option (Val × Sto)) : Val → Val → Sto → Option (Val × Sto) := fun a b S => match g a b S with
  | some r => some r
  | none => h a b S
def altC (g h : List Val → Sto → Option (Val × Sto)) : List Val → Sto → Option (Val × Sto) := fun as S => match g as S with
  | some r => some r
  | none => h as S
theorem OpG.or {f : Value → Value → Sem Value} {g h : Val → Val → Sto → Option (Val × Sto)} (a : OpG X f g) (b : OpG X f h) : OpG X f (alt2 g h) := by
  obtain ⟨r, h1, h2⟩ := a
  obtain ⟨r', h3, h4⟩ := b
  refine ⟨_, h1.or h3, fun F m H S x y v u res S' ok rx ry e Q k => ?_⟩
  unfold alt2 at e
  split at e
  · rename_i q hq
    cases e
    exact .inl (h2 ok rx ry hq Q k)
  · exact .inr (h4 ok rx ry e Q k)
theorem CallG.or {f : Value} {g h : List Val → Sto → Option (Val × Sto)} (a : CallG X f g) (b : CallG X f h) : CallG X f (altC g h) := by
  obtain ⟨r, h1, h2⟩ := a
  obtain ⟨r', h3, h4⟩ := b
  refine ⟨_, h1.or h3, fun F m H S as vs res S' ok rx e Q k => ?_⟩
  unfold altC at e
  split at e
  · rename_i q hq
    cases e
    exact .inl (h2 ok rx hq Q k)
  · exact .inr (h4 ok rx e Q k)
def eBin (g : Val → Val → Sto → Option (Val × Sto)) (fa fb : Ef) : Ef := fun ρ S => bnd (fa ρ S) fun a S1 => bnd (fb ρ S1) fun b S2 => g a b S2
theorem snd_bin {r : R2} {g : Val → Val → Sto → Option (Val × Sto)} {fa fb : Ef} (h : RB K r g) : SndE K (tOp r (tE K fa) (tE K fb)) (eBin g fa fb) := fun F m H S ρ σ res S' ok ro e Q k => by
  obtain ⟨a, S1, e1, e⟩ := bnd_inv e
  obtain ⟨b, S2, e2, e⟩ := bnd_inv e
  refine sndE ok ro e1 _ fun v F1 m1 H1 st1 ok1 r1 => ?_
  refine sndE ok1 (ro_mono st1 ro) e2 _ fun u F2 m2 H2 st2 ok2 r2 => ?_
  exact h ok2 (rv_mono st2 r1) r2 e Q (k.on (st1.trans st2))
theorem ee_op {op : Operator} {g : Val → Val → Sto → Option (Val × Sto)} {a b : Expr} {fa fb : Ef} {pos : Pos} (ho : OpG X (binaryOp op) g) (ha : EE X a fa) (hb : EE X b fb) : EE X (.BinOp a op b pos) (eBin g fa fb) := by
  obtain ⟨r, h1, h2⟩ := ho
  exact ee_of (pe_op h1 ha hb) (snd_bin h2)
def eUn (g : Val → Sto → Option (Val × Sto)) (fa : Ef) : Ef := fun ρ S => bnd (fa ρ S) g

/-! ### new objects -/
inductive Md where
  | N | D
def alloc : Md → List Val → Sto → Option (Val × Sto)
  | .N, xs, S => some (.c S.length, S ++ [.lst xs])
  | .D, xs, S => (unD xs).map fun ds => (.d (.list ds), S)
theorem alloc_D (ds : List PyData) (S : Sto) : alloc .D (ds.map .d) S = some (.d (.list ds), S) := by
  show (unD (ds.map .d)).map _ = _
  rw [unD_d]; rfl
theorem alloc_N (xs : List Val) (S : Sto) : alloc .N xs S = some (.c S.length, S ++ [.lst xs]) := rfl
/-- tuples are data -/
def mkT (xs : List Val) (S : Sto) : Option (Val × Sto) := (unD xs).map fun ds => (.d (.tuple ds), S)
theorem mkT_d (ds : List PyData) (S : Sto) : mkT (ds.map .d) S = some (.d (.tuple ds), S) := by
  unfold mkT; rw [unD_d]; rfl
theorem alloc_ok {F : Hp} {m : List Addr} {H : Hp} {S : Sto} {md : Md} {xs : List Val} {vs : List V} {r : Val} {S' : Sto} {p : Addr} {Q : VK} (ok : SOk K F m H S) (hv : Paired (RV K F m) xs vs) (e : alloc md xs S = some (r, S')) (k : Kt K F m H Q r S') (hp : H p = none) :
    Q (.ref p) (upd H p (.lst vs)) := by
  cases md with
  | N =>
    cases e
    obtain ⟨h1, h2, h3⟩ := al_N ok hp hv
    exact k _ _ _ _ h2 h1 h3
  | D =>
    have e' : (unD xs).map (fun ds => (Val.d (.list ds), S)) = some (r, S') := e
    cases q : unD xs with
    | none => rw [q] at e'; cases e'
    | some ds =>
      rw [q] at e'; cases e'
      obtain ⟨h1, h2⟩ := al_F (o := .lst vs) ok hp
      exact k _ _ _ _ h2 h1 (rv_list.mpr ⟨p, vs, rfl, upd_same, pr_mono (fun x v => rp_mono h2.ex x v) (unD_ok q hv)⟩)
theorem mkT_ok {F : Hp} {m : List Addr} {H : Hp} {S : Sto} {xs : List Val} {vs : List V} {r : Val} {S' : Sto} {p : Addr} {Q : VK} (ok : SOk K F m H S) (hv : Paired (RV K F m) xs vs) (e : mkT xs S = some (r, S')) (k : Kt K F m H Q r S') (hp : H p = none) :
    Q (.ref p) (upd H p (.tup vs)) := by
  unfold mkT at e
  cases q : unD xs with
  | none => rw [q] at e; cases e
  | some ds =>
    rw [q] at e; cases e
    obtain ⟨h1, h2⟩ := al_F (o := .tup vs) ok hp
    exact k _ _ _ _ h2 h1 (rv_tuple.mpr ⟨p, vs, rfl, .of upd_same, pr_mono (fun x v => rp_mono h2.ex x v) (unD_ok q hv)⟩)

/-! ### arithmetic -/
def gI (C : Int → Int → Bool) (g : Int → Int → PyData) : Val → Val → Sto → Option (Val × Sto)
  | .d (.int i), .d (.int j), S => if C i j then some (.d (g i j), S) else none
  | _, _, _ => none
theorem gI_inv {C : Int → Int → Bool} {g : Int → Int → PyData} {a b : Val} {S : Sto} {r : Val × Sto} (h : gI C g a b S = some r) : ∃ i j, a = .d (.int i) ∧ b = .d (.int j) ∧ C i j = true ∧ r = (.d (g i j), S) := by
  unfold gI at h
  split at h
  · rename_i i j
    by_cases c : C i j = true
    · rw [if_pos c] at h
      exact ⟨i, j, rfl, rfl, c, (Option.some.inj h).symm⟩
    · rw [if_neg c] at h; cases h
  · cases h
theorem opI_g {f : Value → Value → Sem Value} {P : Int → Int → Prop} {w : Int → Int → V} {C : Int → Int → Bool} {g : Int → Int → PyData} (h : OpR X f (rI P w)) (hc : ∀ i j, C i j = true → P i j) (hg : ∀ i j F, C i j = true → Rp X.K F (g i j) (w i j)) : OpG X f (gI C g) :=
  ⟨_, h, fun F m H S a b v u res S' ok ra rb e Q k => by
    obtain ⟨i, j, rfl, rfl, c, er⟩ := gI_inv e
    cases er
    cases rv_int.mp ra
    cases rv_int.mp rb
    exact ⟨i, j, rfl, rfl, hc i j c, k.here ok (hg i j F c)⟩⟩
theorem opI0_g {f : Value → Value → Sem Value} {w : Int → Int → V} {g : Int → Int → PyData} (h : OpR X f (rI0 w)) (hg : ∀ i j F, Rp X.K F (g i j) (w i j)) : OpG X f (gI (fun _ _ => true) g) :=
  ⟨_, h, fun F m H S a b v u res S' ok ra rb e Q k => by
    obtain ⟨i, j, rfl, rfl, c, er⟩ := gI_inv e
    cases er
    cases rv_int.mp ra
    cases rv_int.mp rb
    exact ⟨i, j, rfl, rfl, k.here ok (hg i j F)⟩⟩
def gAddI := gI (fun _ _ => true) fun i j => .int (i + j)
def gSub := gI (fun _ _ => true) fun i j => .int (i - j)
def gMulI := gI (fun i j => decide ((-(2 ^ 64) < i ∧ i < 2 ^ 64) ∨ (-(2 ^ 64) < j ∧ j < 2 ^ 64))) fun i j => .int (i * j)
def gDiv := gI (fun _ j => decide (0 < j ∧ j < 1073741824)) fun i j => .int (i / j)
def gMod := gI (fun _ j => decide (0 < j)) fun i j => .int (i % j)
def gPow := gI (fun i j => decide (0 ≤ j ∧ j ≤ 1000000 ∧ i.natAbs < 2 ^ 64)) fun i j => .int (i ^ j.toNat)
theorem og_addI : OpG X (binaryOp .Add) gAddI := opI0_g op_add fun _ _ _ => rp_int.mpr rfl
theorem og_sub : OpG X (binaryOp .Sub) gSub := opI0_g op_sub fun _ _ _ => rp_int.mpr rfl
theorem og_mulI : OpG X (binaryOp .Mult) gMulI := opI_g op_mul (fun _ _ h => by unfold CMul; exact of_decide_eq_true h) fun _ _ _ _ => rp_int.mpr rfl
theorem og_div : OpG X (binaryOp .FloorDiv) gDiv := opI_g op_fdiv (fun _ _ h => by unfold CDiv; exact of_decide_eq_true h) fun _ _ _ _ => rp_int.mpr rfl
theorem og_mod : OpG X (binaryOp .Mod) gMod := opI_g op_mod (fun _ _ h => of_decide_eq_true h) fun _ _ _ _ => rp_int.mpr rfl
theorem og_pow : OpG X (binaryOp .Pow) gPow := opI_g op_pow (fun _ _ h => by unfold CPow; exact of_decide_eq_true h) fun _ _ _ _ => rp_int.mpr rfl
/-- texts -/
def gAddS : Val → Val → Sto → Option (Val × Sto)
  | .d (.str i), .d (.str j), S => if i.length + j.length ≤ sizeLine then some (.d (.str (i ++ j)), S) else none
  | _, _, _ => none
theorem og_addS : OpG X (binaryOp .Add) gAddS := ⟨_, op_add_str, fun F m H S a b v u res S' ok ra rb e Q k => by
  unfold gAddS at e
  split at e
  · rename_i i j
    split at e
    · rename_i hz
      cases e
      cases rv_str.mp ra
      cases rv_str.mp rb
      exact ⟨i, j, rfl, rfl, hz, k.here ok (rv_str.mpr rfl)⟩
    · cases e
  · cases e⟩
/-- lists -/
def gAddL (md : Md) : Val → Val → Sto → Option (Val × Sto) := fun a b S => match viewS S a, viewS S b with
  | some xs, some ys => if xs.length + ys.length ≤ sizeLine then alloc md (xs ++ ys) S else none
  | _, _ => none
theorem og_addL (md : Md) : OpG X (binaryOp .Add) (gAddL md) := ⟨_, op_cat, fun F m H S a b v u res S' ok ra rb e Q k => by
  unfold gAddL at e
  split at e
  · rename_i xs ys h1 h2
    split at e
    · rename_i hz
      obtain ⟨p, vs, rfl, q1, q2⟩ := viewS_ok ok h1 ra
      obtain ⟨p', vs', rfl, q3, q4⟩ := viewS_ok ok h2 rb
      exact ⟨p, p', vs, vs', rfl, rfl, q1, q3, by rw [← pr_len q2, ← pr_len q4]; exact hz, fun l hl => alloc_ok ok (pr_append q2 q4) e k hl⟩
    · cases e
  · cases e⟩
/-- tuples, the left one not empty -/
def gAddT : Val → Val → Sto → Option (Val × Sto)
  | .d (.tuple xs), .d (.tuple ys), S => if xs ≠ [] ∧ xs.length + ys.length ≤ sizeLine then some (.d (.tuple (xs ++ ys)), S) else none
  | _, _, _ => none
theorem og_addT : OpG X (binaryOp .Add) gAddT := ⟨_, op_catT, fun F m H S a b v u res S' ok ra rb e Q k => by
  unfold gAddT at e
  split at e
  · rename_i xs ys
    split at e
    · rename_i hz
      cases e
      obtain ⟨p, vs, rfl, q1, q2⟩ := rv_tuple.mp ra
      obtain ⟨p', vs', rfl, q3, q4⟩ := rv_tuple.mp rb
      refine ⟨p, p', vs, vs', rfl, rfl, same_t ok.ex q1, same_t ok.ex q3, fun z => hz.1 ((pr_nil_iff q2).mpr z), by rw [← pr_len q2, ← pr_len q4]; exact hz.2, fun z => ?_, fun z l hl => ?_⟩
      · have := (pr_nil_iff q4).mpr z
        subst this
        rw [List.append_nil] at k
        exact k.here ok ra
      · obtain ⟨h1, h2⟩ := al_F (o := .tup (vs ++ vs')) ok hl
        exact k _ _ _ _ h2 h1 (rv_tuple.mpr ⟨l, _, rfl, .of upd_same, pr_mono (fun x v => rp_mono h2.ex x v) (pr_append q2 q4)⟩)
    · cases e
  · cases e⟩
def gAdd (md : Md) := alt2 gAddI (alt2 gAddS (alt2 gAddT (gAddL md)))
theorem og_add (md : Md) : OpG X (binaryOp .Add) (gAdd md) := og_addI.or (og_addS.or (og_addT.or (og_addL md)))
/-- a list times an int -/
def gRep (md : Md) : Val → Val → Sto → Option (Val × Sto) := fun a b S => match viewS S a, b with
  | some xs, .d (.int k) => if -(2 ^ 63) ≤ k ∧ k < 2 ^ 63 ∧ xs.length * k.toNat ≤ sizeLine then alloc md (List.replicate k.toNat xs).flatten S else none
  | _, _ => none
theorem pr_rep {α β : Type} {G : α → β → Prop} {xs : List α} {ys : List β} (h : Paired G xs ys) : ∀ k : Nat, Paired G (List.replicate k xs).flatten (List.replicate k ys).flatten
  | 0 => .nil
  | k + 1 => by
    rw [List.replicate_succ, List.replicate_succ, List.flatten_cons, List.flatten_cons]
    exact pr_append h (pr_rep h k)
theorem og_rep (md : Md) : OpG X (binaryOp .Mult) (gRep md) := ⟨_, op_rep, fun F m H S a b v u res S' ok ra rb e Q k => by
  unfold gRep at e
  split at e
  · rename_i xs j h1
    split at e
    · rename_i hz
      obtain ⟨p, vs, rfl, q1, q2⟩ := viewS_ok ok h1 ra
      cases rv_int.mp rb
      exact ⟨p, j, vs, rfl, rfl, q1, hz.1, hz.2.1, by rw [← pr_len q2]; exact hz.2.2, fun l hl => alloc_ok ok (pr_rep q2 _) e k hl⟩
    · cases e
  · cases e⟩
def gMul (md : Md) := alt2 gMulI (gRep md)
theorem og_mul (md : Md) : OpG X (binaryOp .Mult) (gMul md) := og_mulI.or (og_rep md)
/-- - a -/
def eNeg (fa : Ef) : Ef := eUn (fun a S => match a with
  | .d (.int i) => some (.d (.int (-i)), S)
  | _ => none) fa
theorem ee_neg {a : Expr} {fa : Ef} {pos : Pos} (ha : EE X a fa) : EE X (.UnaryOp .USub a pos) (eNeg fa) :=
  ee_of (pe_un un_neg ha) fun F m H S ρ σ res S' ok ro e Q k => by
    obtain ⟨a, S1, e1, e⟩ := bnd_inv e
    refine sndE ok ro e1 _ fun v F1 m1 H1 st1 ok1 r1 => ?_
    split at e
    · rename_i i
      cases e
      cases rv_int.mp r1
      exact ⟨i, rfl, (k.on st1).here ok1 (rv_int.mpr rfl)⟩
    · cases e

/-! ### comparisons -/
def dEqv (x y : PyData) : Option Bool := if x.plain && y.plain && decide (min x.depth y.depth ≤ 60) then some (PyData.eqv x y) else none
def gEq : Val → Val → Sto → Option (Val × Sto) := fun a b S => match look S a, look S b with
  | some x, some y => (dEqv x y).map fun c => (.d (.bool c), S)
  | _, _ => none
def gNe : Val → Val → Sto → Option (Val × Sto) := fun a b S => match look S a, look S b with
  | some x, some y => (dEqv x y).map fun c => (.d (.bool !c), S)
  | _, _ => none
def rEqQ (K : PySem.W.Frag) : R2 := fun x y H Q => ∃ d e, Rp K H d x ∧ Rp K H e y ∧ d.plain = true ∧ e.plain = true ∧ min d.depth e.depth ≤ 60 ∧ Q (.bl (PyData.eqv d e)) H
def rNeQ (K : PySem.W.Frag) : R2 := fun x y H Q => ∃ d e, Rp K H d x ∧ Rp K H e y ∧ d.plain = true ∧ e.plain = true ∧ min d.depth e.depth ≤ 60 ∧ Q (.bl (!PyData.eqv d e)) H
theorem op_eqQ (hu : X.A.units + 61 < cLine) : OpR X (compareOp .Eq) (rEqQ X.K) := by
  intro pins s σ H x y v u Q I rx ry h
  obtain ⟨d, e, hd, he, sd, se, hm, q⟩ := h
  obtain ⟨as, r1⟩ := Dp.reads I d x v (rp_dp d x hd) rx
  obtain ⟨bs, r2⟩ := Dp.reads I e y u (rp_dp e y he) ry
  exact SeqAt.eq_plain r1 r2 sd se (by omega) ⟨.bl _, H, I, rfl, q⟩
theorem op_neQ (hu : X.A.units + 61 < cLine) : OpR X (compareOp .NotEq) (rNeQ X.K) := by
  intro pins s σ H x y v u Q I rx ry h
  obtain ⟨d, e, hd, he, sd, se, hm, q⟩ := h
  obtain ⟨as, r1⟩ := Dp.reads I d x v (rp_dp d x hd) rx
  obtain ⟨bs, r2⟩ := Dp.reads I e y u (rp_dp e y he) ry
  exact SeqAt.ne_plain r1 r2 sd se (by omega) ⟨.bl _, H, I, rfl, q⟩
theorem hu61 {A : Around} {k : Nat} (hr : Room k A) : A.units + 61 < cLine := by have := hr.un; omega
theorem dEqv_inv {x y : PyData} {c : Bool} (h : dEqv x y = some c) : x.plain = true ∧ y.plain = true ∧ min x.depth y.depth ≤ 60 ∧ c = PyData.eqv x y := by
  unfold dEqv at h
  split at h
  · rename_i q
    simp only [Bool.and_eq_true, decide_eq_true_eq] at q
    exact ⟨q.1.1, q.1.2, q.2, (Option.some.inj h).symm⟩
  · cases h
theorem og_eq {k : Nat} (hr : Room k X.A) : OpG X (compareOp .Eq) gEq := ⟨_, op_eqQ (hu61 hr), fun F m H S a b v u res S' ok ra rb e Q k => by
  unfold gEq at e
  split at e
  · rename_i x y h1 h2
    cases q : dEqv x y with
    | none => rw [q] at e; cases e
    | some c =>
      rw [q] at e; cases e
      obtain ⟨p1, p2, p3, rfl⟩ := dEqv_inv q
      exact ⟨x, y, look_ok ok h1 ra, look_ok ok h2 rb, p1, p2, p3, k.here ok (rv_bool.mpr rfl)⟩
  · cases e⟩
theorem og_ne {k : Nat} (hr : Room k X.A) : OpG X (compareOp .NotEq) gNe := ⟨_, op_neQ (hu61 hr), fun F m H S a b v u res S' ok ra rb e Q k => by
  unfold gNe at e
  split at e
  · rename_i x y h1 h2
    cases q : dEqv x y with
    | none => rw [q] at e; cases e
    | some c =>
      rw [q] at e; cases e
      obtain ⟨p1, p2, p3, rfl⟩ := dEqv_inv q
      exact ⟨x, y, look_ok ok h1 ra, look_ok ok h2 rb, p1, p2, p3, k.here ok (rv_bool.mpr rfl)⟩
  · cases e⟩
def gLtI := gI (fun _ _ => true) fun i j => .bool (decide (i < j))
def gLeI := gI (fun _ _ => true) fun i j => .bool (decide (i ≤ j))
def gGtI := gI (fun _ _ => true) fun i j => .bool (decide (j < i))
def gGeI := gI (fun _ _ => true) fun i j => .bool (decide (j ≤ i))
theorem og_ltI : OpG X (compareOp .Lt) gLtI := opI0_g op_lt fun _ _ _ => rp_bool.mpr rfl
theorem og_leI : OpG X (compareOp .LtE) gLeI := opI0_g op_le fun _ _ _ => rp_bool.mpr rfl
theorem og_gtI : OpG X (compareOp .Gt) gGtI := opI0_g op_gt fun _ _ _ => rp_bool.mpr rfl
theorem og_geI : OpG X (compareOp .GtE) gGeI := opI0_g op_ge fun _ _ _ => rp_bool.mpr rfl
def gS2 (g : Str → Str → PyData) : Val → Val → Sto → Option (Val × Sto)
  | .d (.str i), .d (.str j), S => some (.d (g i j), S)
  | _, _, _ => none
theorem opS_g {f : Value → Value → Sem Value} {w : Str → Str → V} {g : Str → Str → PyData} (h : OpR X f (fun x y H Q => ∃ i j, x = .str i ∧ y = .str j ∧ Q (w i j) H)) (hg : ∀ i j F, Rp X.K F (g i j) (w i j)) : OpG X f (gS2 g) :=
  ⟨_, h, fun F m H S a b v u res S' ok ra rb e Q k => by
    unfold gS2 at e
    split at e
    · rename_i i j
      cases e
      cases rv_str.mp ra
      cases rv_str.mp rb
      exact ⟨i, j, rfl, rfl, k.here ok (hg i j F)⟩
    · cases e⟩
def gLeS := gS2 fun i j => .bool (!decide (j.cps.toList < i.cps.toList))
theorem og_leS : OpG X (compareOp .LtE) gLeS := opS_g op_le_str fun _ _ _ => rp_bool.mpr rfl
def gLe := alt2 gLeI gLeS
theorem og_le : OpG X (compareOp .LtE) gLe := og_leI.or og_leS
/-- is None -/
def isNo : PyData → Bool
  | .none => true
  | _ => false
def gIs (neg : Bool) : Val → Val → Sto → Option (Val × Sto)
  | .d x, .d .none, S => some (.d (.bool (xor neg (isNo x))), S)
  | _, _, _ => none
theorem rp_isnone {F : Hp} {x : PyData} {v : V} (h : Rp K F x v) : decide (v = .non) = (isNo x) := by
  cases x with
  | none => cases rp_none.mp h; rfl
  | bool b => cases rp_bool.mp h; rfl
  | int b => cases rp_int.mp h; rfl
  | str b => cases rp_str.mp h; rfl
  | list b => obtain ⟨a, vs, rfl, _⟩ := rp_list.mp h; rfl
  | tuple b => obtain ⟨a, vs, rfl, _⟩ := rp_tuple.mp h; rfl
  | dict b => exact (rp_dict.mp h).elim
theorem og_is : OpG X (compareOp .Is) (gIs false) := ⟨_, op_isN, fun F m H S a b v u res S' ok ra rb e Q k => by
  unfold gIs at e
  split at e
  · rename_i x
    cases e
    refine ⟨rv_none.mp rb, ?_⟩
    rw [rp_isnone ra]
    exact k.here ok (rv_bool.mpr (by rw [Bool.false_xor]))
  · cases e⟩
theorem og_isnot : OpG X (compareOp .IsNot) (gIs true) := ⟨_, op_notN, fun F m H S a b v u res S' ok ra rb e Q k => by
  unfold gIs at e
  split at e
  · rename_i x
    cases e
    refine ⟨rv_none.mp rb, ?_⟩
    rw [rp_isnone ra]
    exact k.here ok (rv_bool.mpr (by rw [Bool.true_xor]))
  · cases e⟩
theorem ee_cmp {op : CmpOp} {g : Val → Val → Sto → Option (Val × Sto)} {a b : Expr} {fa fb : Ef} {pos : Pos} (ho : OpG X (compareOp op) g) (ha : EE X a fa) (hb : EE X b fb) (hm : behindInMarks op b = false := by first | exact nomark _ | rfl) : EE X (.Compare a [op] [b] pos) (eBin g fa fb) := by
  obtain ⟨r, h1, h2⟩ := ho
  exact ee_of (pe_cmpR h1 ha hb hm) (snd_bin h2)
/-- a value as a test -/
def tst (f : Ef) : Tf := fun ρ S => bnd (f ρ S) fun a S1 => match a with
  | .d (.bool b) => some (b, S1)
  | _ => none
theorem snd_tst {t : TE} {f : Ef} (h : SndE K t f) : SndT K (tTest t) (tst f) := fun F m H S ρ σ res S' ok ro e Q k => by
  obtain ⟨a, S1, e1, e⟩ := bnd_inv e
  refine h ok ro e1 _ fun v F1 m1 H1 st1 ok1 r1 => ?_
  split at e
  · rename_i b
    cases e
    cases rv_bool.mp r1
    exact ⟨_, rfl, (k.on st1).here ok1⟩
  · cases e
theorem et_cmp {op : CmpOp} {g : Val → Val → Sto → Option (Val × Sto)} {a b : Expr} {fa fb : Ef} {pos : Pos} (ho : OpG X (compareOp op) g) (ha : EE X a fa) (hb : EE X b fb) (hm : behindInMarks op b = false := by first | exact nomark _ | rfl) : ET X (.Compare a [op] [b] pos) (tst (eBin g fa fb)) := by
  obtain ⟨r, h1, h2⟩ := ho
  exact et_of (pt_cmpR h1 ha hb hm) (snd_tst (snd_bin h2))
theorem et_val {e : Expr} {f : Ef} (h : EE X e f) (he : ∀ whole, isTrue e X.env whole = (do let v ← whole; standAt e.pos; holding [v] (truthy v)) := by intro _; rfl) : ET X e (tst f) :=
  et_of (pt_val h he) (snd_tst sndE)
/-- a op b op' c -/
def eChain (g g' : Val → Val → Sto → Option (Val × Sto)) (fa fb fc : Ef) : Ef := fun ρ S => bnd (fa ρ S) fun a S1 => bnd (fb ρ S1) fun b S2 => bnd (g a b S2) fun r S3 => match r with
  | .d (.bool true) => bnd (fc ρ S3) fun c S4 => g' b c S4
  | .d (.bool false) => some (.d (.bool false), S3)
  | _ => none
theorem snd_chain {r r' : R2} {g g' : Val → Val → Sto → Option (Val × Sto)} {fa fb fc : Ef} (h : RB K r g) (h' : RB K r' g') : SndE K (tChain r r' (tE K fa) (tE K fb) (tE K fc)) (eChain g g' fa fb fc) := fun F m H S ρ σ res S' ok ro e Q k => by
  obtain ⟨a, S1, e1, e⟩ := bnd_inv e
  obtain ⟨b, S2, e2, e⟩ := bnd_inv e
  obtain ⟨c, S3, e3, e⟩ := bnd_inv e
  refine sndE ok ro e1 _ fun v F1 m1 H1 st1 ok1 r1 => ?_
  refine sndE ok1 (ro_mono st1 ro) e2 _ fun u F2 m2 H2 st2 ok2 r2 => ?_
  refine h ok2 (rv_mono st2 r1) r2 e3 _ fun z F3 m3 H3 st3 ok3 r3 => ?_
  have stt := (st1.trans st2).trans st3
  split at e
  · cases rv_bool.mp r3
    refine ⟨true, rfl, ?_⟩
    rw [if_pos rfl]
    obtain ⟨c, S4, e4, e⟩ := bnd_inv e
    refine sndE ok3 (ro_mono stt ro) e4 _ fun w F4 m4 H4 st4 ok4 r4 => ?_
    exact h' ok4 (rv_mono (st3.trans st4) r2) r4 e Q (k.on (stt.trans st4))
  · cases rv_bool.mp r3
    cases e
    refine ⟨false, rfl, ?_⟩
    rw [if_neg Bool.false_ne_true]
    exact (k.on stt).here ok3 (rv_bool.mpr rfl)
  · cases e
end
end QL

namespace QL
open PySem PySem.Spec PyProof.Rows L2
section
variable {X : Cx} {K : PySem.W.Frag}
/-! ### and, or, not, if: tests -/
def fAnd (f g : Tf) : Tf := fun ρ S => bnd (f ρ S) fun a S1 => if a = true then g ρ S1 else some (false, S1)
def fOr (f g : Tf) : Tf := fun ρ S => bnd (f ρ S) fun a S1 => if a = true then some (true, S1) else g ρ S1
def fNot (f : Tf) : Tf := fun ρ S => bnd (f ρ S) fun a S1 => some (!a, S1)
theorem snd_and {f g : Tf} : SndT K (tAnd (tT K f) (tT K g)) (fAnd f g) := fun F m H S ρ σ res S' ok ro e Q k => by
  obtain ⟨a, S1, e1, e⟩ := bnd_inv e
  refine sndT ok ro e1 _ fun F1 m1 H1 st1 ok1 => ?_
  cases a with
  | true => exact iteT (sndT ok1 (ro_mono st1 ro) e Q (k.on st1))
  | false => cases e; exact iteF ((k.on st1).here ok1)
theorem snd_or {f g : Tf} : SndT K (tOr (tT K f) (tT K g)) (fOr f g) := fun F m H S ρ σ res S' ok ro e Q k => by
  obtain ⟨a, S1, e1, e⟩ := bnd_inv e
  refine sndT ok ro e1 _ fun F1 m1 H1 st1 ok1 => ?_
  cases a with
  | false => exact iteF (sndT ok1 (ro_mono st1 ro) e Q (k.on st1))
  | true => cases e; exact iteT ((k.on st1).here ok1)
variable {a b c : Expr} {rest : List Expr} {pos : Pos} {f g h : Tf} {fa fb fc : Ef}
theorem ew_and1 (ha : ET X a f) : EW X (.BoolOp .And [a] pos) f := pw_and1 ha
theorem ew_or1 (ha : ET X a f) : EW X (.BoolOp .Or [a] pos) f := pw_or1 ha
theorem ew_and (ha : ET X a f) (hb : EW X (.BoolOp .And (b :: rest) pos) g) : EW X (.BoolOp .And (a :: b :: rest) pos) (fAnd f g) := ew_of (pw_and ha hb) snd_and
theorem ew_or (ha : ET X a f) (hb : EW X (.BoolOp .Or (b :: rest) pos) g) : EW X (.BoolOp .Or (a :: b :: rest) pos) (fOr f g) := ew_of (pw_or ha hb) snd_or
theorem et_bo {op} (h : EW X (.BoolOp op rest pos) f) : ET X (.BoolOp op rest pos) f := PW.pt h
theorem et_not (ha : ET X a f) : ET X (.UnaryOp .Not a pos) (fNot f) := et_of (pt_not ha) fun F m H S ρ σ res S' ok ro e Q k => by
  obtain ⟨a, S1, e1, e⟩ := bnd_inv e
  cases e
  exact sndT ok ro e1 _ fun F1 m1 H1 st1 ok1 => (k.on st1).here ok1
/-! .. as values (bools) -/
def eAnd (f g : Ef) : Ef := fun ρ S => bnd (f ρ S) fun a S1 => match a with
  | .d (.bool true) => g ρ S1
  | .d (.bool false) => some (.d (.bool false), S1)
  | _ => none
def eOr (f g : Ef) : Ef := fun ρ S => bnd (f ρ S) fun a S1 => match a with
  | .d (.bool false) => g ρ S1
  | .d (.bool true) => some (.d (.bool true), S1)
  | _ => none
def eNot (f : Ef) : Ef := fun ρ S => bnd (f ρ S) fun a S1 => match a with
  | .d (.bool c) => some (.d (.bool !c), S1)
  | _ => none
theorem ee_one {op} (h : EE X a fa) : EE X (.BoolOp op [a] pos) fa := pe_one h
theorem ee_and (ha : EE X a fa) (hb : EE X (.BoolOp .And (b :: rest) pos) fb) : EE X (.BoolOp .And (a :: b :: rest) pos) (eAnd fa fb) := ee_of (pe_and ha hb) fun F m H S ρ σ res S' ok ro e Q k => by
  obtain ⟨a, S1, e1, e⟩ := bnd_inv e
  refine sndE ok ro e1 _ fun v F1 m1 H1 st1 ok1 r1 => ?_
  split at e
  · cases rv_bool.mp r1
    exact ⟨true, rfl, iteT (sndE ok1 (ro_mono st1 ro) e Q (k.on st1))⟩
  · cases rv_bool.mp r1
    cases e
    exact ⟨false, rfl, iteF ((k.on st1).here ok1 (rv_bool.mpr rfl))⟩
  · cases e
theorem ee_or (ha : EE X a fa) (hb : EE X (.BoolOp .Or (b :: rest) pos) fb) : EE X (.BoolOp .Or (a :: b :: rest) pos) (eOr fa fb) := ee_of (pe_or ha hb) fun F m H S ρ σ res S' ok ro e Q k => by
  obtain ⟨a, S1, e1, e⟩ := bnd_inv e
  refine sndE ok ro e1 _ fun v F1 m1 H1 st1 ok1 r1 => ?_
  split at e
  · cases rv_bool.mp r1
    exact ⟨false, rfl, iteF (sndE ok1 (ro_mono st1 ro) e Q (k.on st1))⟩
  · cases rv_bool.mp r1
    cases e
    exact ⟨true, rfl, iteT ((k.on st1).here ok1 (rv_bool.mpr rfl))⟩
  · cases e
theorem ee_not (ha : EE X a fa) : EE X (.UnaryOp .Not a pos) (eNot fa) := ee_of (pe_not ha) fun F m H S ρ σ res S' ok ro e Q k => by
  obtain ⟨a, S1, e1, e⟩ := bnd_inv e
  refine sndE ok ro e1 _ fun v F1 m1 H1 st1 ok1 r1 => ?_
  split at e
  · cases rv_bool.mp r1
    cases e
    exact ⟨_, rfl, (k.on st1).here ok1 (rv_bool.mpr rfl)⟩
  · cases e
def eIf (f : Tf) (fa fb : Ef) : Ef := fun ρ S => bnd (f ρ S) fun c S1 => if c = true then fa ρ S1 else fb ρ S1
theorem ee_if (hc : ET X c f) (ha : EE X a fa) (hb : EE X b fb) : EE X (.IfExp c a b pos) (eIf f fa fb) := ee_of (pe_ifExp hc ha hb) fun F m H S ρ σ res S' ok ro e Q k => by
  obtain ⟨a, S1, e1, e⟩ := bnd_inv e
  refine sndT ok ro e1 _ fun F1 m1 H1 st1 ok1 => ?_
  cases a with
  | true => exact iteT (sndE ok1 (ro_mono st1 ro) e Q (k.on st1))
  | false => exact iteF (sndE ok1 (ro_mono st1 ro) e Q (k.on st1))
/-! ### a op b op' c -/
theorem ee_chain {op op' : CmpOp} {g g' : Val → Val → Sto → Option (Val × Sto)} (ho : OpG X (compareOp op) g) (ho' : OpG X (compareOp op') g') (ha : EE X a fa) (hb : EE X b fb) (hc : EE X c fc)
    (hm : lastMarks [op, op'] [b, c] = false := by rfl) : EE X (.Compare a [op, op'] [b, c] pos) (eChain g g' fa fb fc) := by
  obtain ⟨r, q1, q2⟩ := ho
  obtain ⟨r', q3, q4⟩ := ho'
  exact ee_of (pe_chain q1 q3 ha hb hc hm) (snd_chain q2 q4)
theorem et_chain {op op' : CmpOp} {g g' : Val → Val → Sto → Option (Val × Sto)} (ho : OpG X (compareOp op) g) (ho' : OpG X (compareOp op') g') (ha : EE X a fa) (hb : EE X b fb) (hc : EE X c fc)
    (hm : lastMarks [op, op'] [b, c] = false := by rfl) : ET X (.Compare a [op, op'] [b, c] pos) (tst (eChain g g' fa fb fc)) := by
  obtain ⟨r, q1, q2⟩ := ho
  obtain ⟨r', q3, q4⟩ := ho'
  exact et_of (pt_chain q1 q3 ha hb hc hm) (snd_tst (snd_chain q2 q4))

/-! ### arguments, displays -/
def aNil : Af := fun _ S => some ([], S)
def aCons (f : Ef) (g : Af) : Af := fun ρ S => bnd (f ρ S) fun a S1 => bnd (g ρ S1) fun as S2 => some (a :: as, S2)
variable {es : List Expr} {fs : Af} {e : Expr}
theorem ea_nil : EA X [] aNil := ea_of pa_nil fun F m H S ρ σ res S' ok ro e Q k => by
  cases e
  exact k _ _ _ _ Stp.refl ok .nil
theorem ea_cons (ha : EE X e fa) (hr : EA X es fs) (hs : starEach (e :: es) X.env = (false, eval e X.env) :: starEach es X.env := by rfl) : EA X (e :: es) (aCons fa fs) := ea_of (pa_cons ha hr hs) fun F m H S ρ σ res S' ok ro e Q k => by
  obtain ⟨a, S1, e1, e⟩ := bnd_inv e
  obtain ⟨as, S2, e2, e⟩ := bnd_inv e
  cases e
  refine sndE ok ro e1 _ fun v F1 m1 H1 st1 ok1 r1 => ?_
  refine sndA ok1 (ro_mono st1 ro) e2 _ fun vs F2 m2 H2 st2 ok2 r2 => ?_
  exact k _ _ _ _ (st1.trans st2) ok2 (.cons (rv_mono st2 r1) r2)
def eLst (md : Md) (fs : Af) : Ef := fun ρ S => bnd (fs ρ S) fun as S1 => if as.length ≤ sizeLine then alloc md as S1 else none
def eTup (fs : Af) : Ef := fun ρ S => bnd (fs ρ S) fun as S1 => if as.length ≤ sizeLine then mkT as S1 else none
theorem ee_lst (md : Md) (h : EA X es fs) : EE X (.List es pos) (eLst md fs) := ee_of (pe_lst h) fun F m H S ρ σ res S' ok ro e Q k => by
  obtain ⟨as, S1, e1, e⟩ := bnd_inv e
  split at e
  · rename_i hz
    refine sndA ok ro e1 _ fun vs F1 m1 H1 st1 ok1 r1 => ⟨by rw [← pr_len r1]; exact hz, fun p hp => alloc_ok ok1 r1 e (k.on st1) hp⟩
  · cases e
theorem ee_tup {x1} (h : EA X es fs) : EE X (.Tuple es x1 pos) (eTup fs) := ee_of (pe_tup h) fun F m H S ρ σ res S' ok ro e Q k => by
  obtain ⟨as, S1, e1, e⟩ := bnd_inv e
  split at e
  · rename_i hz
    refine sndA ok ro e1 _ fun vs F1 m1 H1 st1 ok1 r1 => ⟨by rw [← pr_len r1]; exact hz, fun p hp => mkT_ok ok1 r1 e (k.on st1) hp⟩
  · cases e

/-! ### built-in calls -/
def eCB (g : List Val → Sto → Option (Val × Sto)) (fs : Af) : Ef := fun ρ S => bnd (fs ρ S) g
theorem snd_cb {r : List V → Hp → VK → Prop} {g : List Val → Sto → Option (Val × Sto)} (h : RC K r g) : SndE K (tCB r (tA K fs)) (eCB g fs) := fun F m H S ρ σ res S' ok ro e Q k => by
  obtain ⟨as, S1, e1, e⟩ := bnd_inv e
  exact sndA ok ro e1 _ fun vs F1 m1 H1 st1 ok1 r1 => h ok1 r1 e Q (k.on st1)
theorem ee_cb {id : String} {x : Str} {p : Pos} {g : List Val → Sto → Option (Val × Sto)} (hc : CallG X (.builtin id) g) (hm : X.mg x = none) (ha : EA X (e :: es) fs) (hv : bootBuiltins x = some (.builtin id) := by decide +kernel) (hg : Gl X x := by rfl) (hn : x ≠ "__name__" := by decide) (hdb : (x == ("__debug__" : Str)) = false := by decide)
    (he : starEach (e :: es) X.env = (false, eval e X.env) :: starEach es X.env := by rfl) (hpl : (backTo pos (starEach es X.env)).any (·.1) = false := by rfl) : EE X (.Call (.Name x p) (e :: es) [] pos) (eCB g fs) := by
  obtain ⟨r, h1, h2⟩ := hc
  exact ee_of (pe_callB h1 hg hm hv ha hn hdb he hpl) (snd_cb h2)
theorem ee_cty {id : String} {x : Str} {p : Pos} {g : List Val → Sto → Option (Val × Sto)} (hc : CallG X (.type id) g) (hm : X.mg x = none) (ha : EA X (e :: es) fs) (hv : bootBuiltins x = some (.type id) := by decide +kernel) (hg : Gl X x := by rfl) (hn : x ≠ "__name__" := by decide) (hdb : (x == ("__debug__" : Str)) = false := by decide)
    (he : starEach (e :: es) X.env = (false, eval e X.env) :: starEach es X.env := by rfl) (hpl : (backTo pos (starEach es X.env)).any (·.1) = false := by rfl) : EE X (.Call (.Name x p) (e :: es) [] pos) (eCB g fs) := by
  obtain ⟨r, h1, h2⟩ := hc
  exact ee_of (pe_callTy h1 hg hm hv ha hn hdb he hpl) (snd_cb h2)
def gAbs : List Val → Sto → Option (Val × Sto)
  | [.d (.int i)], S => some (.d (.int (if i < 0 then -i else i)), S)
  | _, _ => none
theorem cg_abs : CallG X (.builtin "abs") gAbs := ⟨_, call_abs, fun F m H S as vs res S' ok rs e Q k => by
  unfold gAbs at e
  split at e
  · rename_i i
    cases e
    cases rs with
    | cons r1 t =>
      cases t
      cases rv_int.mp r1
      exact ⟨i, rfl, k.here ok (rv_int.mpr rfl)⟩
  · cases e⟩
def gMax2 : List Val → Sto → Option (Val × Sto)
  | [.d (.int i), .d (.int j)], S => some (.d (.int (if j > i then j else i)), S)
  | _, _ => none
def gMin2 : List Val → Sto → Option (Val × Sto)
  | [.d (.int i), .d (.int j)], S => some (.d (.int (if j < i then j else i)), S)
  | _, _ => none
theorem cg_max2 (hc : X.calm = true := by rfl) : CallG X (.builtin "max") gMax2 := ⟨_, call_max2 hc, fun F m H S as vs res S' ok rs e Q k => by
  unfold gMax2 at e
  split at e
  · rename_i i j
    cases e
    cases rs with
    | cons r1 t =>
      cases t with
      | cons r2 t =>
        cases t
        cases rv_int.mp r1
        cases rv_int.mp r2
        exact ⟨i, j, rfl, k.here ok (rv_int.mpr rfl)⟩
  · cases e⟩
theorem cg_min2 (hc : X.calm = true := by rfl) : CallG X (.builtin "min") gMin2 := ⟨_, call_min2 hc, fun F m H S as vs res S' ok rs e Q k => by
  unfold gMin2 at e
  split at e
  · rename_i i j
    cases e
    cases rs with
    | cons r1 t =>
      cases t with
      | cons r2 t =>
        cases t
        cases rv_int.mp r1
        cases rv_int.mp r2
        exact ⟨i, j, rfl, k.here ok (rv_int.mpr rfl)⟩
  · cases e⟩
def gInt : List Val → Sto → Option (Val × Sto)
  | [.d (.int i)], S => some (.d (.int i), S)
  | [.d (.bool b)], S => some (.d (.int (if b then 1 else 0)), S)
  | _, _ => none
theorem cg_int : CallG X (.type "int") gInt := ⟨_, call_int1, fun F m H S as vs res S' ok rs e Q k => by
  unfold gInt at e
  split at e
  · rename_i i
    cases e
    cases rs with
    | cons r1 t =>
      cases t
      cases rv_int.mp r1
      exact .inl ⟨i, rfl, k.here ok (rv_int.mpr rfl)⟩
  · rename_i i
    cases e
    cases rs with
    | cons r1 t =>
      cases t
      cases rv_bool.mp r1
      exact .inr ⟨i, rfl, k.here ok (rv_int.mpr rfl)⟩
  · cases e⟩
def gDivmod : List Val → Sto → Option (Val × Sto)
  | [.d (.int i), .d (.int j)], S => if 0 < j ∧ j < 1073741824 then some (.d (.tuple [.int (i / j), .int (i % j)]), S) else none
  | _, _ => none
theorem cg_divmod : CallG X (.builtin "divmod") gDivmod := ⟨_, call_divmod, fun F m H S as vs res S' ok rs e Q k => by
  unfold gDivmod at e
  split at e
  · rename_i i j
    split at e
    · rename_i hc
      cases e
      cases rs with
      | cons r1 t =>
        cases t with
        | cons r2 t =>
          cases t
          cases rv_int.mp r1
          cases rv_int.mp r2
          refine ⟨i, j, rfl, hc, fun p hp => ?_⟩
          obtain ⟨h1, h2⟩ := al_F (o := .tup [.int (i / j), .int (i % j)]) ok hp
          exact k _ _ _ _ h2 h1 (rv_tuple.mpr ⟨p, _, rfl, .of upd_same, .cons (rp_int.mpr rfl) (.cons (rp_int.mpr rfl) .nil)⟩)
    · cases e
  · cases e⟩
/-- len of a list, a tuple, a text -/
def gLen : List Val → Sto → Option (Val × Sto)
  | [.d (.tuple xs)], S => some (.d (.int xs.length), S)
  | [.d (.str x)], S => if x.length ≤ sizeLine then some (.d (.int x.length), S) else none
  | [a], S => match viewL S a with
    | some xs => some (.d (.int xs.length), S)
    | none => none
  | _, _ => none
theorem cg_len : CallG X (.builtin "len") gLen := ⟨_, call_len, fun F m H S as vs res S' ok rs e Q k => by
  unfold gLen at e
  split at e
  · rename_i xs
    cases e
    cases rs with
    | cons r1 t =>
      cases t
      obtain ⟨a, ws, rfl, q1, q2⟩ := rv_tuple.mp r1
      exact ⟨_, ws.length, rfl, .inr ⟨ws, same_t ok.ex q1, rfl⟩, k.here ok (rv_int.mpr (by rw [pr_len q2]))⟩
  · rename_i x
    split at e
    · rename_i hz
      cases e
      cases rs with
      | cons r1 t =>
        cases t
        cases rv_str.mp r1
        exact ⟨_, x.length, rfl, ⟨hz, rfl⟩, k.here ok (rv_int.mpr rfl)⟩
    · cases e
  · rename_i a _ _
    split at e
    · rename_i xs h1
      cases e
      cases rs with
      | cons r1 t =>
        cases t
        obtain ⟨p, ws, rfl, q1, q2⟩ := viewL_ok ok h1 r1
        exact ⟨_, ws.length, rfl, .inl ⟨ws, q1, rfl⟩, k.here ok (rv_int.mpr (by rw [pr_len q2]))⟩
    · cases e
  · cases e⟩
/-- list(..) of a list, a tuple -/
def viewQ (S : Sto) : Val → Option (List Val)
  | .d (.tuple xs) => some (xs.map .d)
  | a => viewL S a
theorem viewQ_ok {F H : Hp} {m : List Addr} {S : Sto} (ok : SOk K F m H S) {a : Val} {xs : List Val} {v : V} (h : viewQ S a = some xs) (r : RV K F m a v) : ∃ p vs, v = .ref p ∧ (SqL K H p vs ∨ SqT K H p vs) ∧ Paired (RV K F m) xs vs := by
  have other : viewL S a = some xs → ∃ p vs, v = .ref p ∧ (SqL K H p vs ∨ SqT K H p vs) ∧ Paired (RV K F m) xs vs := fun h => by
    obtain ⟨p, vs, e, h1, h2⟩ := viewL_ok ok h r
    exact ⟨p, vs, e, .inl h1, h2⟩
  unfold viewQ at h
  split at h
  · cases h
    obtain ⟨p, vs, rfl, h1, h2⟩ := rv_tuple.mp r
    exact ⟨p, vs, rfl, .inr (same_t ok.ex h1), rp_rvs h2⟩
  · exact other h
def gList (md : Md) : List Val → Sto → Option (Val × Sto)
  | [a], S => match viewQ S a with
    | some xs => alloc md xs S
    | none => none
  | _, _ => none
theorem cg_list (md : Md) : CallG X (.type "list") (gList md) := ⟨_, call_list_of, fun F m H S as vs res S' ok rs e Q k => by
  unfold gList at e
  split at e
  · split at e
    · rename_i xs h1
      cases rs with
      | cons r1 t =>
        cases t
        obtain ⟨p, ws, rfl, q1, q2⟩ := viewQ_ok ok h1 r1
        exact ⟨p, ws, rfl, q1, fun l hl => alloc_ok ok q2 e k hl⟩
    · cases e
  · cases e⟩
/-- tuple(..) -/
def gTuple : List Val → Sto → Option (Val × Sto)
  | [.d (.tuple xs)], S => some (.d (.tuple xs), S)
  | [a], S => match viewL S a with
    | some xs => mkT xs S
    | none => none
  | _, _ => none
theorem cg_tuple : CallG X (.type "tuple") gTuple := ⟨_, call_tuple_of, fun F m H S as vs res S' ok rs e Q k => by
  unfold gTuple at e
  split at e
  · cases e
    cases rs with
    | cons r1 t =>
      cases t
      obtain ⟨p, ws, rfl, q1, q2⟩ := rv_tuple.mp r1
      exact ⟨p, ws, rfl, .inr ⟨same_t ok.ex q1, k.here ok r1⟩⟩
  · split at e
    · rename_i xs h1
      cases rs with
      | cons r1 t =>
        cases t
        obtain ⟨p, ws, rfl, q1, q2⟩ := viewL_ok ok h1 r1
        exact ⟨p, ws, rfl, .inl ⟨q1, fun l hl => mkT_ok ok q2 e k hl⟩⟩
    · cases e
  · cases e⟩
/-- lists of ints, of bools -/
def isI : PyData → Option Int
  | .int i => some i
  | _ => none
def isB : PyData → Option Bool
  | .bool i => some i
  | _ => none
theorem mapI_ok {H : Hp} : ∀ {ds : List PyData} {ns : List Int} {vs : List V}, mapO isI ds = some ns → Paired (Rp K H) ds vs → vs = ns.map V.int
  | [], ns, _, h, .nil => by cases h; rfl
  | d :: ds, ns, _, h, .cons r t => by
    have h' : ((isI d).bind fun b => (mapO isI ds).map (b :: ·)) = some ns := h
    cases d with
    | int i =>
      cases e : mapO isI ds with
      | none => rw [e] at h'; cases h'
      | some bs =>
        rw [e] at h'
        cases h'
        cases rp_int.mp r
        rw [List.map_cons, mapI_ok e t]
    | _ => cases h'
theorem mapB_ok {H : Hp} : ∀ {ds : List PyData} {ns : List Bool} {vs : List V}, mapO isB ds = some ns → Paired (Rp K H) ds vs → vs = ns.map V.bl
  | [], ns, _, h, .nil => by cases h; rfl
  | d :: ds, ns, _, h, .cons r t => by
    have h' : ((isB d).bind fun b => (mapO isB ds).map (b :: ·)) = some ns := h
    cases d with
    | bool i =>
      cases e : mapO isB ds with
      | none => rw [e] at h'; cases h'
      | some bs =>
        rw [e] at h'
        cases h'
        cases rp_bool.mp r
        rw [List.map_cons, mapB_ok e t]
    | _ => cases h'
theorem mapI_d : ∀ ns : List Int, mapO isI (ns.map .int) = some ns
  | [] => rfl
  | n :: ns => by rw [List.map_cons, mapO, mapI_d ns]; rfl
theorem mapB_d : ∀ ns : List Bool, mapO isB (ns.map .bool) = some ns
  | [] => rfl
  | n :: ns => by rw [List.map_cons, mapO, mapB_d ns]; rfl
def lookIs (S : Sto) (a : Val) : Option (List Int) := match look S a with
  | some (.list ds) => mapO isI ds
  | _ => none
def lookBs (S : Sto) (a : Val) : Option (List Bool) := match look S a with
  | some (.list ds) => mapO isB ds
  | _ => none
theorem lookIs_d (S : Sto) (ns : List Int) : lookIs S (.d (.list (ns.map .int))) = some ns := mapI_d ns
theorem lookBs_d (S : Sto) (ns : List Bool) : lookBs S (.d (.list (ns.map .bool))) = some ns := mapB_d ns
theorem lookIs_ok {F H : Hp} {m : List Addr} {S : Sto} (ok : SOk K F m H S) {a : Val} {ns : List Int} {v : V} (h : lookIs S a = some ns) (r : RV K F m a v) : ∃ p, v = .ref p ∧ H p = some (.lst (ns.map V.int)) := by
  unfold lookIs at h
  split at h
  · rename_i ds h1
    obtain ⟨p, vs, rfl, q1, q2⟩ := rp_list.mp (look_ok ok h1 r)
    rw [mapI_ok h q2] at q1
    exact ⟨p, rfl, q1⟩
  · cases h
theorem lookBs_ok {F H : Hp} {m : List Addr} {S : Sto} (ok : SOk K F m H S) {a : Val} {ns : List Bool} {v : V} (h : lookBs S a = some ns) (r : RV K F m a v) : ∃ p, v = .ref p ∧ H p = some (.lst (ns.map V.bl)) := by
  unfold lookBs at h
  split at h
  · rename_i ds h1
    obtain ⟨p, vs, rfl, q1, q2⟩ := rp_list.mp (look_ok ok h1 r)
    rw [mapB_ok h q2] at q1
    exact ⟨p, rfl, q1⟩
  · cases h
def gSum : List Val → Sto → Option (Val × Sto)
  | [a], S => (lookIs S a).map fun ns => (.d (.int ns.sum), S)
  | _, _ => none
def gAll : List Val → Sto → Option (Val × Sto)
  | [a], S => (lookBs S a).map fun ns => (.d (.bool (ns.all id)), S)
  | _, _ => none
def gAny : List Val → Sto → Option (Val × Sto)
  | [a], S => (lookBs S a).map fun ns => (.d (.bool (ns.any id)), S)
  | _, _ => none
theorem cg_sum (hc : X.calm = true := by rfl) : CallG X (.builtin "sum") gSum := ⟨_, cr_sum hc, fun F m H S as vs res S' ok rs e Q k => by
  unfold gSum at e
  split at e
  · rename_i a
    cases q : lookIs S a with
    | none => rw [q] at e; cases e
    | some ns =>
      rw [q] at e; cases e
      cases rs with
      | cons r1 t =>
        cases t
        obtain ⟨p, rfl, h1⟩ := lookIs_ok ok q r1
        exact ⟨p, ns, rfl, .of h1, k.here ok (rv_int.mpr rfl)⟩
  · cases e⟩
theorem cg_all (hc : X.calm = true := by rfl) : CallG X (.builtin "all") gAll := ⟨_, cr_all hc, fun F m H S as vs res S' ok rs e Q k => by
  unfold gAll at e
  split at e
  · rename_i a
    cases q : lookBs S a with
    | none => rw [q] at e; cases e
    | some ns =>
      rw [q] at e; cases e
      cases rs with
      | cons r1 t =>
        cases t
        obtain ⟨p, rfl, h1⟩ := lookBs_ok ok q r1
        exact ⟨p, ns, rfl, .of h1, k.here ok (rv_bool.mpr rfl)⟩
  · cases e⟩
theorem cg_any (hc : X.calm = true := by rfl) : CallG X (.builtin "any") gAny := ⟨_, cr_any hc, fun F m H S as vs res S' ok rs e Q k => by
  unfold gAny at e
  split at e
  · rename_i a
    cases q : lookBs S a with
    | none => rw [q] at e; cases e
    | some ns =>
      rw [q] at e; cases e
      cases rs with
      | cons r1 t =>
        cases t
        obtain ⟨p, rfl, h1⟩ := lookBs_ok ok q r1
        exact ⟨p, ns, rfl, .of h1, k.here ok (rv_bool.mpr rfl)⟩
  · cases e⟩

/-! ### isinstance -/
def tyN : PyData → String
  | .none => "NoneType" | .bool _ => "bool" | .int _ => "int" | .str _ => "str" | .list _ => "list" | .tuple _ => "tuple" | .dict _ => "dict"
def isT (d : PyData) (T : String) : Bool := tyN d == T || (T == "int" && tyN d == "bool")
theorem rp_ty {H : Hp} {d : PyData} {v : V} (h : Rp K H d v) : TyX K H v (.type (tyN d)) := by
  cases d with
  | none => cases rp_none.mp h; exact .base .non
  | bool b => cases rp_bool.mp h; exact .base (.bl b)
  | int b => cases rp_int.mp h; exact .base (.int b)
  | str b => cases rp_str.mp h; exact .base (.str b)
  | list b => obtain ⟨a, vs, rfl, h1, _⟩ := rp_list.mp h; exact .base (.lst h1)
  | tuple b =>
    obtain ⟨a, vs, rfl, h1, _⟩ := rp_tuple.mp h
    rcases h1 with (h1 | ⟨o, h1⟩) | ⟨o, its, n, h1, h2, _⟩
    · exact .base (.tup h1)
    · exact .fTuple h1
    · exact .kTuple h1 h2
  | dict b => exact (rp_dict.mp h).elim
theorem kb_all : (["NoneType", "bool", "int", "str", "list", "tuple"].all fun a => ["int", "bool", "str", "list", "tuple"].all fun b => kitB a b == some (a == b || (b == "int" && a == "bool"))) = true := by decide +kernel
theorem kb_of {H : Hp} {d : PyData} {v : V} (h : Rp K H d v) {T : String} (hT : T ∈ ["int", "bool", "str", "list", "tuple"]) : PySem.W.kitOne K (.type (tyN d)) (.type T) = some (isT d T) := by
  have h1 := List.all_eq_true.mp kb_all (tyN d) (by cases d <;> first | (simp [tyN]; done) | exact (rp_dict.mp h).elim)
  have h2 := List.all_eq_true.mp h1 T hT
  exact kit_ty (beq_iff_eq.mp h2)
def gIsi (Ts : List String) (fa : Ef) : Ef := fun ρ S => bnd (fa ρ S) fun a S1 => match look S1 a with
  | some d => some (.d (.bool (Ts.any fun T => isT d T)), S1)
  | none => none
theorem ee_isi {p1 p2 : Pos} {x : Str} {T : String} (hm : X.mg "isinstance" = none) (hx : X.mg x = none) (ha : EE X a fa) (hv : bootBuiltins x = some (.type T) := by decide +kernel) (hT : T ∈ ["int", "bool", "str", "list", "tuple"] := by decide) (hg : Gl X "isinstance" := by rfl) (hgx : Gl X x := by rfl)
    (hn : x ≠ "__name__" := by decide) (hd : (x == ("__debug__" : Str)) = false := by decide) (hs : starEach [a, .Name x p2] X.env = (false, eval a X.env) :: starEach [.Name x p2] X.env := by rfl) (hs2 : starEach [.Name x p2] X.env = (false, eval (.Name x p2) X.env) :: starEach [] X.env := by rfl)
    (hpl : (backTo pos (starEach [.Name x p2] X.env)).any (·.1) = false := by rfl) :
    EE X (.Call (.Name "isinstance" p1) [a, .Name x p2] [] pos) (gIsi [T] fa) :=
  ee_of (pe_callB call_isi hg hm (by decide +kernel) (pa_cons ha (pa_cons (pe_bltn (v := .ty T) hgx hx hv rfl hn hd) pa_nil hs2) hs) (by decide) (by decide) hs hpl) fun F m H S ρ σ res S' ok ro e Q k => by
    obtain ⟨a, S1, e1, e⟩ := bnd_inv e
    refine sndE ok ro e1 _ fun v F1 m1 H1 st1 ok1 r1 => ?_
    split at e
    · rename_i d hd
      cases e
      have hr := look_ok ok1 hd r1
      refine ⟨v, .ty T, _, _, isT d T, rfl, .ty T, rp_ty hr, kb_of hr hT, ?_⟩
      exact (k.on st1).here ok1 (rv_bool.mpr (by simp))
    · cases e
theorem ee_isi2 {p1 p2 p3 p4 : Pos} {x1} {x y : Str} {T U : String} (hm : X.mg "isinstance" = none) (hx : X.mg x = none) (hy : X.mg y = none) (ha : EE X a fa) (hv : bootBuiltins x = some (.type T) := by decide +kernel) (hT : T ∈ ["int", "bool", "str", "list", "tuple"] := by decide) (hw : bootBuiltins y = some (.type U) := by decide +kernel) (hU : U ∈ ["int", "bool", "str", "list", "tuple"] := by decide)
    (hg : Gl X "isinstance" := by rfl) (hgx : Gl X x := by rfl) (hgy : Gl X y := by rfl) (hn : x ≠ "__name__" := by decide) (hd : (x == ("__debug__" : Str)) = false := by decide) (hn' : y ≠ "__name__" := by decide) (hd' : (y == ("__debug__" : Str)) = false := by decide)
    (hs : starEach [a, .Tuple [.Name x p2, .Name y p3] x1 p4] X.env = (false, eval a X.env) :: starEach [.Tuple [.Name x p2, .Name y p3] x1 p4] X.env := by rfl) (hs2 : starEach [.Tuple [.Name x p2, .Name y p3] x1 p4] X.env = (false, eval (.Tuple [.Name x p2, .Name y p3] x1 p4) X.env) :: starEach [] X.env := by rfl)
    (hs3 : starEach [.Name x p2, .Name y p3] X.env = (false, eval (.Name x p2) X.env) :: starEach [.Name y p3] X.env := by rfl) (hs4 : starEach [.Name y p3] X.env = (false, eval (.Name y p3) X.env) :: starEach [] X.env := by rfl)
    (hpl : (backTo pos (starEach [.Tuple [.Name x p2, .Name y p3] x1 p4] X.env)).any (·.1) = false := by rfl) :
    EE X (.Call (.Name "isinstance" p1) [a, .Tuple [.Name x p2, .Name y p3] x1 p4] [] pos) (gIsi [T, U] fa) :=
  ee_of (pe_callB call_isiT hg hm (by decide +kernel) (pa_cons ha (pa_cons (pe_tup (pa_cons (pe_bltn (v := .ty T) hgx hx hv rfl hn hd) (pa_cons (pe_bltn (v := .ty U) hgy hy hw rfl hn' hd') pa_nil hs4) hs3)) pa_nil hs2) hs) (by decide) (by decide) hs hpl) fun F m H S ρ σ res S' ok ro e Q k => by
    obtain ⟨a, S1, e1, e⟩ := bnd_inv e
    refine sndE ok ro e1 _ fun v F1 m1 H1 st1 ok1 r1 => ?_
    split at e
    · rename_i d hd
      cases e
      refine ⟨by show 2 ≤ sizeLine; rw [sizeLine_eq]; decide, fun p hp => ?_⟩
      obtain ⟨ok2, st2⟩ := al_F (o := .tup [.ty T, .ty U]) ok1 hp
      have hr : Rp X.K _ d v := rp_mono (F' := upd H1 p (.tup [.ty T, .ty U])) (fun b o h => by rw [upd_ne (ne_of_none h hp)]; exact h) d v (look_ok ok1 hd r1)
      refine ⟨v, p, [.ty T, .ty U], _, [.type T, .type U], isT d T || isT d U, rfl, upd_same, .cons (.ty T) (.cons (.ty U) .nil), rp_ty hr, ?_, ?_⟩
      · refine kitAny_cons (kb_of hr hT) (fun h => ?_) (fun h => by rw [h]; rfl)
        rw [h, Bool.false_or]
        refine kitAny_cons (kb_of hr hU) (fun h => ?_) (fun h => h)
        rw [h]; rfl
      · exact (k.on (st1.trans st2)).here ok2 (rv_bool.mpr (by simp))
    · cases e
end
end QL

namespace QL
open PySem PySem.Spec PyProof.Rows L2
section
variable {X : Cx} {K : PySem.W.Frag} {a b c e : Expr} {es : List Expr} {pos : Pos} {f g h : Tf} {fa fb fc : Ef} {fs : Af}
/-! ### in -/
def inD (x : PyData) (ds : List PyData) : Option Bool := if x.plain && PyData.plainAll ds && decide (min (PyData.depthAll ds) x.depth ≤ 60) then some (ds.any fun y => PyData.eqv y x) else none
def gIn (neg : Bool) : Val → Val → Sto → Option (Val × Sto) := fun a b S => match look S a, look S b with
  | some x, some (.list ds) => (inD x ds).map fun c => (.d (.bool (xor neg c)), S)
  | some x, some (.tuple ds) => (inD x ds).map fun c => (.d (.bool (xor neg c)), S)
  | some (.str x), some (.str y) => some (.d (.bool (xor neg (!(Builtin.Str.occurrences y x 0 y.length 1).isEmpty))), S)
  | _, _ => none
theorem inD_inv {x : PyData} {ds : List PyData} {c : Bool} (h : inD x ds = some c) : x.plain = true ∧ PyData.plainAll ds = true ∧ min (PyData.depthAll ds) x.depth ≤ 60 ∧ c = ds.any fun y => PyData.eqv y x := by
  unfold inD at h
  split at h
  · rename_i q
    simp only [Bool.and_eq_true, decide_eq_true_eq] at q
    exact ⟨q.1.1, q.1.2, q.2, (Option.some.inj h).symm⟩
  · cases h
def rInQ (K : PySem.W.Frag) (neg : Bool) : R2 := fun x y H Q => ∃ d ds, Rp K H d x ∧ (Rp K H (.list ds) y ∨ Rp K H (.tuple ds) y) ∧ d.plain = true ∧ PyData.plainAll ds = true ∧ min (PyData.depthAll ds) d.depth ≤ 60 ∧ Q (.bl (xor neg (ds.any fun y => PyData.eqv y d))) H
theorem op_inQ (hu : X.A.units + 64 < cLine) : OpR X (compareOp .In) (rInQ X.K false) := by
  intro pins s σ H x y v u Q I rx ry h
  obtain ⟨d, ds, hd, he, sd, se, hm, q⟩ := h
  rw [Bool.false_xor] at q
  obtain ⟨as, r1⟩ := Dp.reads I d x v (rp_dp d x hd) rx
  rcases he with he | he
  · obtain ⟨bs, r2⟩ := Dp.reads I _ y u (rp_dp _ y he) ry
    exact SeqAt.in_list_data r2 r1 se sd (by omega) ⟨.bl _, H, I, rfl, q⟩
  · obtain ⟨bs, r2⟩ := Dp.reads I _ y u (rp_dp _ y he) ry
    exact SeqAt.in_tuple_data r2 r1 se sd (by omega) ⟨.bl _, H, I, rfl, q⟩
theorem op_notInQ (hu : X.A.units + 64 < cLine) : OpR X (compareOp .NotIn) (rInQ X.K true) := by
  intro pins s σ H x y v u Q I rx ry h
  obtain ⟨d, ds, hd, he, sd, se, hm, q⟩ := h
  rw [Bool.true_xor] at q
  obtain ⟨as, r1⟩ := Dp.reads I d x v (rp_dp d x hd) rx
  rcases he with he | he
  · obtain ⟨bs, r2⟩ := Dp.reads I _ y u (rp_dp _ y he) ry
    exact SeqAt.notIn_list_data r2 r1 se sd (by omega) ⟨.bl _, H, I, rfl, q⟩
  · obtain ⟨bs, r2⟩ := Dp.reads I _ y u (rp_dp _ y he) ry
    exact SeqAt.notIn_tuple_data r2 r1 se sd (by omega) ⟨.bl _, H, I, rfl, q⟩
theorem rin_ok {neg : Bool} {rS : R2} (hS : ∀ (i j : Str) (H : Hp) (Q : VK), Q (.bl (xor neg (!(Builtin.Str.occurrences j i 0 j.length 1).isEmpty))) H → rS (.str i) (.str j) H Q) : RB K (fun x y H Q => rInQ K neg x y H Q ∨ rS x y H Q) (gIn neg) := fun F m H S a b v u res S' ok ra rb e Q k => by
  unfold gIn at e
  split at e
  · rename_i x ds h1 h2
    cases q : inD x ds with
    | none => rw [q] at e; cases e
    | some c =>
      rw [q] at e; cases e
      obtain ⟨p1, p2, p3, rfl⟩ := inD_inv q
      exact .inl ⟨x, ds, look_ok ok h1 ra, .inl (look_ok ok h2 rb), p1, p2, p3, k.here ok (rv_bool.mpr rfl)⟩
  · rename_i x ds h1 h2
    cases q : inD x ds with
    | none => rw [q] at e; cases e
    | some c =>
      rw [q] at e; cases e
      obtain ⟨p1, p2, p3, rfl⟩ := inD_inv q
      exact .inl ⟨x, ds, look_ok ok h1 ra, .inr (look_ok ok h2 rb), p1, p2, p3, k.here ok (rv_bool.mpr rfl)⟩
  · rename_i x y h1 h2
    cases e
    cases rp_str.mp (look_ok ok h1 ra)
    cases rp_str.mp (look_ok ok h2 rb)
    exact .inr (hS x y H Q (k.here ok (rv_bool.mpr rfl)))
  · cases e
theorem hu64 {A : Around} {k : Nat} (hr : Room k A) : A.units + 64 < cLine := by have := hr.un; omega
theorem og_in {k : Nat} (hr : Room k X.A) : OpG X (compareOp .In) (gIn false) := ⟨_, (op_inQ (hu64 hr)).or op_in_str, rin_ok fun i j H Q q => ⟨i, j, rfl, rfl, by rw [Bool.false_xor] at q; exact q⟩⟩
theorem og_notin {k : Nat} (hr : Room k X.A) : OpG X (compareOp .NotIn) (gIn true) := ⟨_, (op_notInQ (hu64 hr)).or op_notIn_str, rin_ok fun i j H Q q => ⟨i, j, rfl, rfl, by rw [Bool.true_xor] at q; exact q⟩⟩

/-! ### a[i] -/
def gIx : Val → Val → Sto → Option (Val × Sto) := fun a b S => match b with
  | .d (.int i) => match a with
    | .d (.str z) => if z.length ≤ sizeLine then (atI z.cps.toList i).map fun c => (.d (.str ⟨#[c]⟩), S) else none
    | a => match viewQ S a with
      | some xs => (atI xs i).map fun x => (x, S)
      | none => none
  | _ => none
theorem atI_pr {α β : Type} {G : α → β → Prop} {xs : List α} {ys : List β} (h : Paired G xs ys) {i : Int} {x : α} (e : atI xs i = some x) : ∃ y, atI ys i = some y ∧ G x y := by
  unfold atI at e ⊢
  rw [← pr_len h]
  cases q : ixN xs.length i with
  | none => rw [q] at e; cases e
  | some j =>
    rw [q] at e
    obtain ⟨y, h1, h2⟩ := pr_get h (show xs[j]? = some x from e)
    exact ⟨y, h1, h2⟩
theorem rix_ok : RB K (rIx K) gIx := fun F m H S a b v u res S' ok ra rb e Q k => by
  unfold gIx at e
  split at e
  · rename_i i
    cases rv_int.mp rb
    split at e
    · rename_i z
      split at e
      · rename_i hz
        cases q : atI z.cps.toList i with
        | none => rw [q] at e; cases e
        | some c =>
          rw [q] at e; cases e
          cases rv_str.mp ra
          exact .inr (.inr ⟨z, i, c, rfl, rfl, hz, q, k.here ok (rv_str.mpr rfl)⟩)
      · cases e
    · split at e
      · rename_i xs h1
        cases q : atI xs i with
        | none => rw [q] at e; cases e
        | some x =>
          rw [q] at e; cases e
          obtain ⟨p, ws, rfl, q1, q2⟩ := viewQ_ok ok h1 ra
          obtain ⟨y, h2, h3⟩ := atI_pr q2 q
          rcases q1 with q1 | q1
          · exact .inl ⟨p, ws, i, y, rfl, rfl, q1, h2, k.here ok h3⟩
          · exact .inr (.inl ⟨p, ws, i, y, rfl, rfl, q1, h2, k.here ok h3⟩)
      · cases e
  · cases e
theorem ee_ix (ha : EE X a fa) (hb : EE X b fb) (hs : PlainIx b := by exact fun _ _ => rfl) : EE X (.Subscript a b pos) (eBin gIx fa fb) := ee_of (pe_ix ix_seq ha hb hs) (snd_bin rix_ok)

/-! ### a[i:j] -/
abbrev Of := Rho → Sto → Option (Option Int × Sto)
def oNo : Of := fun _ S => some (none, S)
def oSo (f : Ef) : Of := fun ρ S => bnd (f ρ S) fun a S1 => match a with
  | .d (.int i) => some (some i, S1)
  | _ => none
def KtO (K : PySem.W.Frag) (F : Hp) (m : List Addr) (H : Hp) (Q : Option Int → Hp → Prop) (r : Option Int) (S' : Sto) : Prop := ∀ F' m' H', Stp F m H F' m' H' → SOk K F' m' H' S' → Q r H'
def SndO (K : PySem.W.Frag) (t : TO) (f : Of) : Prop := ∀ ⦃F m H S ρ σ r S'⦄, SOk K F m H S → ROk K F m ρ σ → f ρ S = some (r, S') → ∀ Q : Option Int → Hp → Prop, KtO K F m H Q r S' → t σ H Q
def EO (X : Cx) (e : Option Expr) (f : Of) : Prop := ∃ t, PO X e t ∧ SndO X.K t f
theorem eo_none : EO X none oNo := ⟨_, po_none, fun F m H S ρ σ res S' ok ro e Q k => by cases e; exact k _ _ _ Stp.refl ok⟩
theorem eo_some (ha : EE X a fa) : EO X (some a) (oSo fa) := ⟨_, po_some ha, fun F m H S ρ σ res S' ok ro e Q k => by
  obtain ⟨a, S1, e1, e⟩ := bnd_inv e
  refine sndE ok ro e1 _ fun v F1 m1 H1 st1 ok1 r1 => ?_
  split at e
  · rename_i i
    cases e
    cases rv_int.mp r1
    exact ⟨i, rfl, k _ _ _ st1 ok1⟩
  · cases e⟩
def cutG {α : Type} (xs : List α) (lo hi : Option Int) : List α := (xs.drop (HT.sIx xs.length 0 lo)).take (HT.sIx xs.length xs.length hi - HT.sIx xs.length 0 lo)
def gSl (md : Md) (a : Val) (lo hi : Option Int) (S : Sto) : Option (Val × Sto) := match a with
  | .d (.str z) => if z.length ≤ sizeLine then some (.d (.str (cutS z lo hi)), S) else none
  | a => match viewL S a with
    | some xs => alloc md (cutG xs lo hi) S
    | none => none
theorem pr_cut {α β : Type} {G : α → β → Prop} {xs : List α} {ys : List β} (h : Paired G xs ys) (lo hi : Option Int) : Paired G (cutG xs lo hi) (cutG ys lo hi) := by
  unfold cutG
  rw [pr_len h]
  exact pr_take _ (pr_drop _ h)
theorem cutV_eq (xs : List V) (lo hi : Option Int) : cutV xs lo hi = cutG xs lo hi := rfl
theorem gSl_ok {md : Md} {F H : Hp} {m : List Addr} {S S' : Sto} {a res : Val} {v : V} {l u : Option Int} {Q : VK} (ok : SOk K F m H S) (r : RV K F m a v) (e : gSl md a l u S = some (res, S')) (k : Kt K F m H Q res S') : rSlS v l u H Q ∨ rSlL K v l u H Q := by
  unfold gSl at e
  split at e
  · rename_i z
    split at e
    · rename_i hz
      cases e
      cases rv_str.mp r
      exact .inl ⟨z, rfl, hz, k.here ok (rv_str.mpr rfl)⟩
    · cases e
  · split at e
    · rename_i xs h1
      obtain ⟨p, ws, rfl, q1, q2⟩ := viewL_ok ok h1 r
      refine .inr ⟨p, ws, rfl, q1, fun q hq => ?_⟩
      rw [cutV_eq]
      exact alloc_ok ok (pr_cut q2 l u) e k hq
    · cases e
def eSl (md : Md) (fa : Ef) (fl fh : Of) : Ef := fun ρ S => bnd (fa ρ S) fun a S1 => bnd (fl ρ S1) fun l S2 => bnd (fh ρ S2) fun u S3 => gSl md a l u S3
theorem ee_sl (md : Md) {lo hi : Option Expr} {p2 : Pos} {fl fh : Of} (ha : EE X a fa) (hl : EO X lo fl) (hh : EO X hi fh) : EE X (.Subscript a (.Slice lo hi none p2) pos) (eSl md fa fl fh) := by
  obtain ⟨tl, hl1, hl2⟩ := hl
  obtain ⟨th, hh1, hh2⟩ := hh
  refine ee_of (pe_slice (sl_str.or sl_list) ha hl1 hh1) fun F m H S ρ σ res S' ok ro e Q k => ?_
  obtain ⟨a, S1, e1, e⟩ := bnd_inv e
  obtain ⟨l, S2, e2, e⟩ := bnd_inv e
  obtain ⟨u, S3, e3, e⟩ := bnd_inv e
  refine sndE ok ro e1 _ fun v F1 m1 H1 st1 ok1 r1 => ?_
  refine hl2 ok1 (ro_mono st1 ro) e2 _ fun F2 m2 H2 st2 ok2 => ?_
  refine hh2 ok2 (ro_mono (st1.trans st2) ro) e3 _ fun F3 m3 H3 st3 ok3 => ?_
  exact gSl_ok ok3 (rv_mono (st2.trans st3) r1) e (k.on ((st1.trans st2).trans st3))
/-- a slice of a tuple that may be the whole -/
def gSlT (a : Val) (lo hi : Option Int) (S : Sto) : Option (Val × Sto) := match a with
  | .d (.tuple xs) => some (.d (.tuple (cutG xs lo hi)), S)
  | _ => none

/-! ### str of an int, of a list -/
def gStr : List Val → Sto → Option (Val × Sto)
  | [.d (.int i)], S => if i.natAbs.log2 < 1920 then some (.d (.str (toString i)), S) else none
  | _, _ => none
theorem cg_str : CallG X (.type "str") gStr := ⟨_, call_str_int, fun F m H S as vs res S' ok rs e Q k => by
  unfold gStr at e
  split at e
  · rename_i i
    split at e
    · rename_i hz
      cases e
      cases rs with
      | cons r1 t =>
        cases t
        cases rv_int.mp r1
        exact ⟨i, rfl, hz, k.here ok (rv_str.mpr rfl)⟩
    · cases e
  · cases e⟩

/-! ### calls of the text's own defs -/
def spOf (K : PySem.W.Frag) (n : Nat) (φ : List Val → Sto → Option (Val × Sto)) : Sp := fun vs H Q _ => ∃ F m as S r S', as.length = n ∧ SOk K F m H S ∧ Paired (RV K F m) as vs ∧ φ as S = some (r, S') ∧ Kt K F m H Q r S'
theorem spOf_len {K : PySem.W.Frag} {n : Nat} {φ : List Val → Sto → Option (Val × Sto)} (vs : List V) (H : Hp) (Q : VK) (E : XK) (h : spOf K n φ vs H Q E) : vs.length = n := by
  obtain ⟨F, m, as, S, r, S', h1, _, h2, _⟩ := h
  rw [← pr_len h2]; exact h1
/-- room for calls, and no display under way -/
structure RoomG (k : Nat) (A : Around) : Prop where
  room : Room k A
  gd : A.guards = some []
theorem RoomG.mono {j k : Nat} {A : Around} (r : RoomG k A) (h : j ≤ k) : RoomG j A := ⟨r.room.mono h, r.gd⟩
/-- a def of the text keeps its promise wherever no display is under way -/
def FnG (P : Program) (w : World) (K : PySem.W.Frag) (mg : Str → Option Value) (base : Heap) (k : Nat) (f : Addr) (fd : FuncData) (ps : List Str) (n : Nat) (φ : List Val → Sto → Option (Val × Sto)) : Prop :=
  ∀ (A : Around) (outer : List PySem.Env) (s : Shared) (H : Hp) (args : Args) (us : List Value) (vs : List V) (Q : VK), RoomG k A → Env0 P w K mg base A outer s H → BindsTo s fd args (ps.zip us) → Vals vs us → spOf K n φ vs H Q E0 →
    codeAny (model P w) A (.call (.ref f) args) (fun r s' => match r with
      | .ok (.ret u) => CE outer P w H s Q u s'
      | _ => False) s
/-- the def named x stands and keeps its promise -/
def DefOk (P : Program) (w : World) (K : PySem.W.Frag) (mg : Str → Option Value) (base : Heap) (k : Nat) (x : Str) (n : Nat) (φ : List Val → Sto → Option (Val × Sto)) : Prop :=
  ∃ f fd ps, ps.length = n ∧ FnG P w K mg base k f fd ps n φ ∧ mg x = some (.ref f) ∧ PySem.W.keepIn K (.ref f) = true ∧ Binds K fd ps []
theorem DefOk.mono {P : Program} {w : World} {K : PySem.W.Frag} {mg : Str → Option Value} {base : Heap} {j k : Nat} {x : Str} {n : Nat} {φ : List Val → Sto → Option (Val × Sto)} (D : DefOk P w K mg base j x n φ) (h : j ≤ k) : DefOk P w K mg base k x n φ := by
  obtain ⟨f, fd, ps, h1, h2, h3⟩ := D
  exact ⟨f, fd, ps, h1, fun A outer s H args us vs Q hr => h2 A outer s H args us vs Q (hr.mono h), h3⟩
def eCall (n : Nat) (φ : List Val → Sto → Option (Val × Sto)) (fs : Af) : Ef := fun ρ S => bnd (fs ρ S) fun as S1 => if as.length = n then φ as S1 else none
theorem ee_call {k n : Nat} {x : Str} {p : Pos} {φ : List Val → Sto → Option (Val × Sto)} (D : DefOk X.prog X.w X.K X.mg X.base k x n φ) (hr : RoomG k X.A) (ha : EA X (e :: es) fs) (hg : Gl X x := by rfl) (hdb : (x == ("__debug__" : Str)) = false := by decide)
    (he : starEach (e :: es) X.env = (false, eval e X.env) :: starEach es X.env := by rfl) (hpl : (backTo pos (starEach es X.env)).any (·.1) = false := by rfl) : EE X (.Call (.Name x p) (e :: es) [] pos) (eCall n φ fs) := by
  obtain ⟨f, fd, ps, hn, F, hm, hk, hb⟩ := D
  have h1 : PE X (.Call (.Name x p) (e :: es) [] pos) (tCB (fun vs H Q => spOf X.K n φ vs H Q E0) (tA X.K fs)) := by
    constructor
    intro pins s σ H Q I h
    refine wpAny_Call_Name_kw (ld_glob I hg hm ?_ hdb)
    refine PySem.W.callWith_K (h₀ := X.base) I.ok.mod.kin hk (thn (ha.run pos pins s σ H _ I h) fun us s1 ⟨vs, H1, I1, rv, q⟩ => ⟨I1.kIn, ?_⟩) he hpl
    have hl : us.length = ps.length := by
      rw [← rv.length, hn]
      exact spOf_len vs H1 Q E0 q
    have hb' := hb s1 us I1.kIn (by rw [List.append_nil]; exact hl)
    rw [List.append_nil] at hb'
    refine wpAny_call (codeAny_mono (F X.A X.stack s1 H1 ⟨us, []⟩ us vs Q hr I1.env0 hb' rv q) fun r s' hq => ?_)
    cases r with
    | error e => exact hq.elim
    | ok fl =>
      cases fl with
      | ret u => exact I1.after hq
      | next => exact hq.elim
      | brk => exact hq.elim
      | cont => exact hq.elim
  refine ee_of h1 fun F0 m H S ρ σ res S' ok ro e Q k' => ?_
  obtain ⟨as, S1, e1, e⟩ := bnd_inv e
  split at e
  · rename_i hl
    refine sndA ok ro e1 _ fun vs F1 m1 H1 st1 ok1 r1 => ?_
    exact ⟨F1, m1, as, S1, res, S', hl, ok1, r1, e, k'.on st1⟩
  · cases e

/-! ### statements -/
inductive Fl where
  | nx | rt (v : Val) | bk | ct
abbrev Sf := Rho → Sto → Option (Fl × Rho × Sto)
def KtS (K : PySem.W.Frag) (F : Hp) (m : List Addr) (H : Hp) (D : Ends) : Fl → Rho → Sto → Prop
  | .nx, ρ', S' => ∀ σ' F' m' H', Stp F m H F' m' H' → SOk K F' m' H' S' → ROk K F' m' ρ' σ' → D.nx σ' H'
  | .bk, ρ', S' => ∀ σ' F' m' H', Stp F m H F' m' H' → SOk K F' m' H' S' → ROk K F' m' ρ' σ' → D.bk σ' H'
  | .ct, ρ', S' => ∀ σ' F' m' H', Stp F m H F' m' H' → SOk K F' m' H' S' → ROk K F' m' ρ' σ' → D.ct σ' H'
  | .rt a, _, S' => ∀ v F' m' H', Stp F m H F' m' H' → SOk K F' m' H' S' → RV K F' m' a v → D.rt v H'
def tS (K : PySem.W.Frag) (f : Sf) : TS := fun D σ H => ∃ F m S ρ fl ρ' S', SOk K F m H S ∧ ROk K F m ρ σ ∧ f ρ S = some (fl, ρ', S') ∧ KtS K F m H D fl ρ' S'
def SndS (K : PySem.W.Frag) (t : TS) (f : Sf) : Prop := ∀ ⦃F m H S ρ σ fl ρ' S'⦄, SOk K F m H S → ROk K F m ρ σ → f ρ S = some (fl, ρ', S') → ∀ D : Ends, KtS K F m H D fl ρ' S' → t D σ H
def SS (X : Cx) (st : Stmt) (f : Sf) : Prop := PS X st (tS X.K f)
def SSs (X : Cx) (st : List Stmt) (f : Sf) : Prop := PSs X st (tS X.K f)
theorem sndS {f : Sf} : SndS K (tS K f) f := fun _ _ _ _ _ _ _ _ _ ok ro e _ k => ⟨_, _, _, _, _, _, _, ok, ro, e, k⟩
variable {st : Stmt} {rest : List Stmt} {u v : Sf}
theorem ss_of {t : TS} (h : PS X st t) (s : SndS X.K t u) : SS X st u := ⟨fun pins s' σ H D I ⟨_, _, _, _, _, _, _, ok, ro, e, k⟩ => h.run pins s' σ H D I (s ok ro e D k)⟩
theorem sss_of {t : TS} (h : PSs X rest t) (s : SndS X.K t u) : SSs X rest u := ⟨fun pins s' σ H D I ⟨_, _, _, _, _, _, _, ok, ro, e, k⟩ => h.run pins s' σ H D I (s ok ro e D k)⟩
theorem KtS.on {F F1 : Hp} {m m1 : List Addr} {H H1 : Hp} {D : Ends} {fl : Fl} {ρ' : Rho} {S' : Sto} (st : Stp F m H F1 m1 H1) (k : KtS K F m H D fl ρ' S') : KtS K F1 m1 H1 D fl ρ' S' := by
  cases fl with
  | nx => exact fun σ' F' m' H' s2 ok ro => k σ' F' m' H' (st.trans s2) ok ro
  | bk => exact fun σ' F' m' H' s2 ok ro => k σ' F' m' H' (st.trans s2) ok ro
  | ct => exact fun σ' F' m' H' s2 ok ro => k σ' F' m' H' (st.trans s2) ok ro
  | rt a => exact fun v F' m' H' s2 ok r => k v F' m' H' (st.trans s2) ok r
def bndS (x : Option (Fl × Rho × Sto)) (f : Sf) : Option (Fl × Rho × Sto) := match x with
  | some (.nx, ρ, S) => f ρ S
  | r => r
def sNil : Sf := fun ρ S => some (.nx, ρ, S)
def sSeq (f g : Sf) : Sf := fun ρ S => bndS (f ρ S) g
theorem sss_nil : SSs X [] sNil := sss_of pss_nil fun F m H S ρ σ fl ρ' S' ok ro e D k => by
  cases e
  exact k σ _ _ _ Stp.refl ok ro
theorem sss_one (h : SS X st u) : SSs X [st] u := pss_one h
theorem sss_cons (h1 : SS X st u) (h2 : SSs X rest v) : SSs X (st :: rest) (sSeq u v) := sss_of (pss_cons h1 h2) fun F m H S ρ σ fl ρ' S' ok ro e D k => by
  have e : bndS (u ρ S) v = some (fl, ρ', S') := e
  cases q : u ρ S with
  | none => rw [q] at e; cases e
  | some r =>
    obtain ⟨fl1, ρ1, S1⟩ := r
    rw [q] at e
    cases fl1 with
    | nx => exact sndS ok ro q _ fun σ' F' m' H' st1 ok1 ro1 => sndS ok1 ro1 e D (k.on st1)
    | bk => cases e; exact sndS ok ro q _ k
    | ct => cases e; exact sndS ok ro q _ k
    | rt a => cases e; exact sndS ok ro q _ k
theorem ss_pass : SS X (.Pass pos) sNil := ss_of ps_pass fun F m H S ρ σ fl ρ' S' ok ro e D k => by
  cases e
  exact k σ _ _ _ Stp.refl ok ro
def sBrk : Sf := fun ρ S => some (.bk, ρ, S)
def sCnt : Sf := fun ρ S => some (.ct, ρ, S)
theorem ss_break : SS X (.Break pos) sBrk := ss_of ps_break fun F m H S ρ σ fl ρ' S' ok ro e D k => by
  cases e
  exact k σ _ _ _ Stp.refl ok ro
theorem ss_continue : SS X (.Continue pos) sCnt := ss_of ps_continue fun F m H S ρ σ fl ρ' S' ok ro e D k => by
  cases e
  exact k σ _ _ _ Stp.refl ok ro
def sExpr (f : Ef) : Sf := fun ρ S => match f ρ S with
  | some (_, S1) => some (.nx, ρ, S1)
  | none => none
theorem ss_expr (ha : EE X a fa) (hs : swapsWith a none pos.line X.env = pure false := by rfl) : SS X (.Expr a pos) (sExpr fa) := ss_of (ps_expr ha hs) fun F m H S ρ σ fl ρ' S' ok ro e D k => by
  unfold sExpr at e
  split at e
  · rename_i r S1 q
    cases e
    exact sndE ok ro q _ fun v F1 m1 H1 st1 ok1 r1 => k σ _ _ _ st1 ok1 (ro_mono st1 ro)
  · cases e
def sRet (f : Ef) : Sf := fun ρ S => match f ρ S with
  | some (r, S1) => some (.rt r, ρ, S1)
  | none => none
theorem ss_ret (ha : EE X a fa) : SS X (.Return (some a) pos) (sRet fa) := ss_of (ps_ret ha) fun F m H S ρ σ fl ρ' S' ok ro e D k => by
  unfold sRet at e
  split at e
  · rename_i r S1 q
    cases e
    exact sndE ok ro q _ fun v F1 m1 H1 st1 ok1 r1 => k v _ _ _ st1 ok1 r1
  · cases e
def sRetN : Sf := fun ρ S => some (.rt (.d .none), ρ, S)
theorem ss_retN : SS X (.Return none pos) sRetN := ss_of ps_retN fun F m H S ρ σ fl ρ' S' ok ro e D k => by
  cases e
  exact k _ _ _ _ Stp.refl ok (rv_none.mpr rfl)
def sIf (f : Tf) (u v : Sf) : Sf := fun ρ S => match f ρ S with
  | some (c, S1) => if c = true then u ρ S1 else v ρ S1
  | none => none
theorem ss_if {s1 s2 : List Stmt} (hc : ET X c f) (ha : SSs X s1 u) (hb : SSs X s2 v) : SS X (.If c s1 s2 pos) (sIf f u v) := ss_of (ps_if hc ha hb) fun F m H S ρ σ fl ρ' S' ok ro e D k => by
  unfold sIf at e
  split at e
  · rename_i r S1 q
    refine sndT ok ro q _ fun F1 m1 H1 st1 ok1 => ?_
    cases r with
    | true => exact iteT (sndS ok1 (ro_mono st1 ro) e D (k.on st1))
    | false => exact iteF (sndS ok1 (ro_mono st1 ro) e D (k.on st1))
  · cases e
/-! ### targets -/
abbrev Gf := Val → Rho → Sto → Option (Rho × Sto)
def tG (K : PySem.W.Frag) (g : Gf) : TG := fun v σ H Q => ∃ F m S ρ a ρ' S', SOk K F m H S ∧ ROk K F m ρ σ ∧ RV K F m a v ∧ g a ρ S = some (ρ', S') ∧ ∀ σ' F' m' H', Stp F m H F' m' H' → SOk K F' m' H' S' → ROk K F' m' ρ' σ' → Q σ' H'
def EG (X : Cx) (target : Expr) (g : Gf) : Prop := PG X target (tG X.K g)
def SndG (K : PySem.W.Frag) (t : TG) (g : Gf) : Prop := ∀ ⦃F m H S ρ σ a v ρ' S'⦄, SOk K F m H S → ROk K F m ρ σ → RV K F m a v → g a ρ S = some (ρ', S') → ∀ Q : L2.St → Hp → Prop, (∀ σ' F' m' H', Stp F m H F' m' H' → SOk K F' m' H' S' → ROk K F' m' ρ' σ' → Q σ' H') → t v σ H Q
theorem eg_of {tg : Expr} {t : TG} {g : Gf} (h : PG X tg t) (s : SndG X.K t g) : EG X tg g := ⟨fun pins s' σ H v u Q I r ⟨_, _, _, _, _, _, _, ok, ro, ra, e, k⟩ => h.run pins s' σ H v u Q I r (s ok ro ra e Q k)⟩
theorem sndG {g : Gf} : SndG K (tG K g) g := fun _ _ _ _ _ _ _ _ _ _ ok ro ra e _ k => ⟨_, _, _, _, _, _, _, ok, ro, ra, e, k⟩
def gN (i : Nat) : Gf := fun a ρ S => some (ρ.set i (some a), S)
theorem eg_name (i : Nat) {x : Str} (hN : X.N.Nodup) (hi : X.N[i]? = some x := by rfl) (hx : Loc X.env.scope x := by first | exact Or.inl rfl | exact Or.inr rfl) (hf : X.fn x = true ∨ X.env.scope.names.lookup x = some .local := by first | exact .inl rfl | exact .inr rfl) : EG X (.Name x pos) (gN i) := eg_of (pg_name hN hi hx hf) fun F m H S ρ σ a v ρ' S' ok ro ra e Q k => by
  cases e
  exact k _ _ _ _ Stp.refl ok (ro.set ra i)
abbrev Gs := List Val → Rho → Sto → Option (Rho × Sto)
def SndGs (K : PySem.W.Frag) (t : TGs) (g : Gs) : Prop := ∀ ⦃F m H S ρ σ as vs ρ' S'⦄, SOk K F m H S → ROk K F m ρ σ → Paired (RV K F m) as vs → g as ρ S = some (ρ', S') → ∀ Q : L2.St → Hp → Prop, (∀ σ' F' m' H', Stp F m H F' m' H' → SOk K F' m' H' S' → ROk K F' m' ρ' σ' → Q σ' H') → t vs σ H Q
def EGs (X : Cx) (ts : List Expr) (g : Gs) : Prop := ∃ t, PGs X ts t ∧ SndGs X.K t g
def gsNil : Gs := fun as ρ S => match as with
  | [] => some (ρ, S)
  | _ => none
def gsCons (g : Gf) (r : Gs) : Gs := fun as ρ S => match as with
  | a :: as => match g a ρ S with
    | some (ρ1, S1) => r as ρ1 S1
    | none => none
  | [] => none
theorem egs_nil : EGs X [] gsNil := ⟨_, pgs_nil, fun F m H S ρ σ as vs ρ' S' ok ro ra e Q k => by
  unfold gsNil at e
  split at e
  · cases e
    cases ra
    exact ⟨rfl, k _ _ _ _ Stp.refl ok ro⟩
  · cases e⟩
theorem egs_cons {g : Gf} {r : Gs} {ts : List Expr} (h1 : EG X a g) (h2 : EGs X ts r) (hs : (assignEach (a :: ts) X.env).map (·.2) = assign a X.env :: (assignEach ts X.env).map (·.2) := by rfl) : EGs X (a :: ts) (gsCons g r) := by
  obtain ⟨t, q1, q2⟩ := h2
  refine ⟨_, pgs_cons h1 q1 hs, fun F m H S ρ σ as vs ρ' S' ok ro ra e Q k => ?_⟩
  unfold gsCons at e
  split at e
  · split at e
    · rename_i ρ1 S1 h3
      cases ra with
      | cons r1 rr =>
        refine ⟨_, _, rfl, sndG ok ro r1 h3 _ fun σ1 F1 m1 H1 st1 ok1 ro1 => ?_⟩
        exact q2 ok1 ro1 (rvs_mono st1 rr) e Q fun σ' F' m' H' s2 => k σ' F' m' H' (st1.trans s2)
    · cases e
  · cases e
def gTu (n : Nat) (r : Gs) : Gf := fun a ρ S => match a with
  | .d (.tuple xs) => if xs.length = n then r (xs.map .d) ρ S else none
  | _ => none
theorem eg_tup {ts : List Expr} {kk n : Nat} {r : Gs} (h : EGs X ts r) (hc : X.calm = true := by rfl) (hn : (assignEach ts X.env).length = n := by rfl) (hst : (assignEach ts X.env).findIdx? (·.1) = none := by rfl) : EG X (.Tuple ts kk pos) (gTu n r) := by
  obtain ⟨t, q1, q2⟩ := h
  refine eg_of (pg_tup hc q1 hn hst) fun F m H S ρ σ a v ρ' S' ok ro ra e Q k => ?_
  unfold gTu at e
  split at e
  · split at e
    · rename_i hl
      obtain ⟨p, ws, rfl, h1, h2⟩ := rv_tuple.mp ra
      exact ⟨p, ws, rfl, same_t ok.ex h1, by rw [← pr_len h2]; exact hl, q2 ok ro (rp_rvs h2) e Q k⟩
    · cases e
  · cases e
/-- xs[i] = v -/
def setIx (a i : Val) (v : Val) (S : Sto) : Option Sto := match a, i with
  | .c k, .d (.int j) => match S[k]? with
    | some (.lst xs) => match ixN xs.length j with
      | some n => some (S.set k (.lst (xs.set n v)))
      | none => none
    | _ => none
  | _, _ => none
theorem setIx_ok {F H : Hp} {m : List Addr} {S S' : Sto} {a i x : Val} {o iv v : V} (ok : SOk K F m H S) (ra : RV K F m a o) (ri : RV K F m i iv) (rx : RV K F m x v) (e : setIx a i x S = some S') {Q : Hp → Prop} (k : ∀ F' m' H', Stp F m H F' m' H' → SOk K F' m' H' S' → Q H') : rSetL o iv v H Q := by
  unfold setIx at e
  split at e
  · rename_i kk j
    split at e
    · rename_i xs h1
      split at e
      · rename_i n h2
        cases e
        obtain ⟨p, hm, rfl⟩ := ra
        cases rv_int.mp ri
        obtain ⟨hF, ws, h3, h4⟩ := ok.cell _ _ _ hm h1
        refine ⟨p, ws, j, n, rfl, rfl, h3, by rw [← pr_len h4]; exact h2, ?_⟩
        obtain ⟨ok2, st2⟩ := al_M ok hm h1 (pr_set rx n h4)
        exact k _ _ _ st2 ok2
      · cases e
    · cases e
  · cases e
def gSub2 (fo fi : Ef) : Gf := fun v ρ S => match fo ρ S with
  | some (o, S1) => match fi ρ S1 with
    | some (i, S2) => match setIx o i v S2 with
      | some S3 => some (ρ, S3)
      | none => none
    | none => none
  | none => none
theorem eg_sub {fo fi : Ef} (ho : EE X a fo) (hi : EE X b fi)
    (hs : ∀ v, assign (.Subscript a b pos) X.env v = (do
      let ov ← holding [v] (eval a X.env)
      let iv ← holding [v, ov] (eval b X.env)
      standAt pos
      holding [v, ov, iv] (setItem ov iv v)
      release [v, ov, iv] []) := by intro _; rfl) : EG X (.Subscript a b pos) (gSub2 fo fi) := eg_of (pg_sub ho hi set_list hs) fun F m H S ρ σ x v ρ' S' ok ro ra e Q k => by
  unfold gSub2 at e
  split at e
  · rename_i o S1 h1
    split at e
    · rename_i i S2 h2
      split at e
      · rename_i S3 h3
        cases e
        refine sndE ok ro h1 _ fun ov F1 m1 H1 st1 ok1 r1 => ?_
        refine sndE ok1 (ro_mono st1 ro) h2 _ fun iv F2 m2 H2 st2 ok2 r2 => ?_
        have stt := st1.trans st2
        exact setIx_ok ok2 (rv_mono st2 r1) r2 (rv_mono stt ra) h3 fun F' m' H' st3 ok3 => k _ _ _ _ (stt.trans st3) ok3 (ro_mono (stt.trans st3) ro)
      · cases e
    · cases e
  · cases e
def sAsg (f : Ef) (g : Gf) : Sf := fun ρ S => match f ρ S with
  | some (a, S1) => match g a ρ S1 with
    | some (ρ2, S2) => some (.nx, ρ2, S2)
    | none => none
  | none => none
theorem snd_asg {t : TE} {tg : TG} {g : Gf} (ht : SndE K t fa) (hg : SndG K tg g) : SndS K (tAsg t tg) (sAsg fa g) := fun F m H S ρ σ fl ρ' S' ok ro e D k => by
  unfold sAsg at e
  split at e
  · rename_i a S1 h1
    split at e
    · rename_i ρ2 S2 h2
      cases e
      refine ht ok ro h1 _ fun v F1 m1 H1 st1 ok1 r1 => ?_
      exact hg ok1 (ro_mono st1 ro) r1 h2 _ fun σ' F' m' H' s2 => k σ' F' m' H' (st1.trans s2)
    · cases e
  · cases e
theorem ss_asg {tg : Expr} {g : Gf} (ha : EE X a fa) (hg : EG X tg g) (hs : swapsWithSole [tg] a pos.line X.env = pure false := by rfl) (hw : swappedStores [tg] a X.env = pure none := by rfl)
    (h1 : (assignEach [tg] X.env).map (·.2) = [assign tg X.env] := by rfl) : SS X (.Assign [tg] a pos) (sAsg fa g) := ss_of (ps_asg ha hg hs hw h1) (snd_asg sndE sndG)
theorem sndN (i : Nat) : SndG K (gName i) (gN i) := fun F m H S ρ σ a v ρ' S' ok ro ra e Q k => by
  cases e
  exact k _ _ _ _ Stp.refl ok (ro.set ra i)
theorem ss_set (i : Nat) {x : Str} {pos' : Pos} (hN : X.N.Nodup) (ha : EE X a fa) (hi : X.N[i]? = some x := by rfl) (hx : Loc X.env.scope x := by first | exact Or.inl rfl | exact Or.inr rfl) (hs : swapsWith a (some (.Name x pos')) pos.line X.env = pure false := by rfl) (hf : X.fn x = true ∨ X.env.scope.names.lookup x = some .local := by first | exact .inl rfl | exact .inr rfl) :
    SS X (.Assign [.Name x pos'] a pos) (sAsg fa (gN i)) := ss_of (ps_set hN hi hx ha hs hf) (snd_asg sndE (sndN i))
/-- a, b = x, y -/
def sPar (i j : Nat) (fs : Af) : Sf := fun ρ S => match fs ρ S with
  | some ([a, b], S1) => some (.nx, (ρ.set i (some a)).set j (some b), S1)
  | _ => none
theorem ss_par (i j : Nat) {x y : Str} {px py pt pt2 : Pos} {kt k2 : Nat} (hN : X.N.Nodup) (ha : EA X [a, b] fs) (hc : X.calm = true := by rfl) (hi : X.N[i]? = some x := by rfl) (hj : X.N[j]? = some y := by rfl) (hij : i ≠ j := by decide)
    (hx : X.env.scope.names.lookup x = some .local := by rfl) (hy : X.env.scope.names.lookup y = some .local := by rfl)
    (hw : swappedStores [.Tuple [.Name x px, .Name y py] kt pt] (.Tuple [a, b] k2 pt2) X.env = pure (some [x, y]) := by rfl)
    (hs : swapsWithSole [.Tuple [.Name x px, .Name y py] kt pt] (.Tuple [a, b] k2 pt2) pos.line X.env = pure false := by rfl) :
    SS X (.Assign [.Tuple [.Name x px, .Name y py] kt pt] (.Tuple [a, b] k2 pt2) pos) (sPar i j fs) := ss_of (ps_par hc hN hi hj hij hx hy ha hw hs) fun F m H S ρ σ fl ρ' S' ok ro e D k => by
  unfold sPar at e
  split at e
  · rename_i p q S1 h1
    cases e
    refine sndA ok ro h1 _ fun vs F1 m1 H1 st1 ok1 r1 => ?_
    cases r1 with
    | cons ra t =>
      cases t with
      | cons rb t =>
        cases t
        exact ⟨_, _, rfl, k _ _ _ _ st1 ok1 (((ro_mono st1 ro).set ra i).set rb j)⟩
  · cases e
end
end QL

namespace QL
open PySem PySem.Spec PyProof.Rows L2
section
variable {X : Cx} {K : PySem.W.Frag} {a b c e : Expr} {es : List Expr} {pos : Pos} {f g h : Tf} {fa fb fc : Ef} {fs : Af} {st : Stmt} {rest : List Stmt} {u v : Sf}
/-! ### a live cell is frozen (nothing runs) -/
def frz1 (a : Val) (S : Sto) : Option (PyData × Sto) := match a with
  | .d x => some (x, S)
  | .c k => match S[k]? with
    | some (.frz x) => some (x, S)
    | some (.lst xs) => (unD xs).map fun ds => (.list ds, S.set k (.frz (.list ds)))
    | none => none
  | .s _ => none
theorem frz1_ok {F H : Hp} {m : List Addr} {S S' : Sto} {a : Val} {x : PyData} {v : V} (ok : SOk K F m H S) (r : RV K F m a v) (e : frz1 a S = some (x, S')) : ∃ F', Stp F m H F' m H ∧ SOk K F' m H S' ∧ Rp K F' x v := by
  cases a with
  | d y => cases e; exact ⟨F, Stp.refl, ok, r⟩
  | s ns => cases e
  | c k =>
    obtain ⟨p, hm, rfl⟩ := r
    unfold frz1 at e
    cases q : S[k]? with
    | none => simp only [q] at e; cases e
    | some c =>
      simp only [q] at e
      cases c with
      | frz y => cases e; exact ⟨F, Stp.refl, ok, ok.cell k p _ hm q⟩
      | lst xs =>
        have e : (unD xs).map (fun ds => (PyData.list ds, S.set k (.frz (.list ds)))) = some (x, S') := e
        cases q2 : unD xs with
        | none => rw [q2] at e; cases e
        | some ds =>
          rw [q2] at e; cases e
          obtain ⟨hF, vs, h1, h2⟩ := ok.cell k p _ hm q
          obtain ⟨o1, o2, o3⟩ := al_Z ok hm q h1 (unD_ok q2 h2)
          exact ⟨_, o2, o1, o3⟩
def eFrz (f : Ef) : Ef := fun ρ S => bnd (f ρ S) fun a S1 => match frz1 a S1 with
  | some (x, S2) => some (.d x, S2)
  | none => none
theorem ee_frz (ha : EE X a fa) : EE X a (eFrz fa) := ee_of ha fun F m H S ρ σ res S' ok ro e Q k => by
  obtain ⟨a, S1, e1, e⟩ := bnd_inv e
  refine sndE ok ro e1 _ fun v F1 m1 H1 st1 ok1 r1 => ?_
  split at e
  · rename_i x S2 q
    cases e
    obtain ⟨F2, st2, ok2, r2⟩ := frz1_ok ok1 r1 q
    exact (k.on (st1.trans st2)).here ok2 r2
  · cases e
/-- a name's cell frozen ahead of what follows -/
def sFrz (i : Nat) (u : Sf) : Sf := fun ρ S => match ρ[i]? with
  | some (some a) => match frz1 a S with
    | some (x, S1) => u (ρ.set i (some (.d x))) S1
    | none => none
  | _ => none
theorem sss_frz (i : Nat) (hb : SSs X rest u) : SSs X rest (sFrz i u) := sss_of hb fun F m H S ρ σ fl ρ' S' ok ro e D k => by
  unfold sFrz at e
  split at e
  · rename_i a q
    split at e
    · rename_i x S1 q1
      obtain ⟨w, h1, h2⟩ := ro.get i a q
      obtain ⟨F1, st1, ok1, r1⟩ := frz1_ok ok h2 q1
      have ro1 := (ro_mono st1 ro).set (a := .d x) r1 i
      have e2 : σ.set i (some w) = σ := by
        apply List.ext_getElem?
        intro j
        by_cases hj : i = j
        · subst hj
          rw [List.getElem?_set_self (List.getElem?_eq_some_iff.mp h1).1, h1]
        · rw [List.getElem?_set_ne hj]
      rw [e2] at ro1
      exact sndS ok1 ro1 e D (k.on st1)
    · cases e
  · cases e

/-! ### x op= e -/
def sAug (i : Nat) (g : Val → Val → Sto → Option (Val × Sto)) (f : Ef) : Sf := fun ρ S => match ρ[i]? with
  | some (some x) => match f ρ S with
    | some (y, S1) => match g x y S1 with
      | some (z, S2) => some (.nx, ρ.set i (some z), S2)
      | none => none
    | none => none
  | _ => none
theorem ss_aug (i : Nat) {x : Str} {op : Operator} {pos' : Pos} {g : Val → Val → Sto → Option (Val × Sto)} (hN : X.N.Nodup) (ho : OpG X (inplaceOp op) g) (ha : EE X a fa) (hi : X.N[i]? = some x := by rfl) (hx : Loc X.env.scope x := by first | exact Or.inl rfl | exact Or.inr rfl) (hf : X.fn x = true ∨ X.env.scope.names.lookup x = some .local := by first | exact .inl rfl | exact .inr rfl) :
    SS X (.AugAssign (.Name x pos') op a pos) (sAug i g fa) := by
  obtain ⟨r, h1, h2⟩ := ho
  refine ss_of (ps_aug hN hi hx ha (ti := r) h1 hf) fun F m H S ρ σ fl ρ' S' ok ro e D k => ?_
  unfold sAug at e
  split at e
  · rename_i x q0
    split at e
    · rename_i y S1 q1
      split at e
      · rename_i z S2 q2
        cases e
        obtain ⟨w, h3, h4⟩ := ro.get i x q0
        refine ⟨w, h3, sndE ok ro q1 _ fun v F1 m1 H1 st1 ok1 r1 => ?_⟩
        refine h2 ok1 (rv_mono st1 h4) r1 q2 _ fun v F2 m2 H2 st2 ok2 r2 => ?_
        exact k _ _ _ _ (st1.trans st2) ok2 ((ro_mono (st1.trans st2) ro).set r2 i)
      · cases e
    · cases e
  · cases e
theorem og_iaddI : OpG X (inplaceOp .Add) gAddI := opI0_g iop_add fun _ _ _ => rp_int.mpr rfl
theorem og_isubI : OpG X (inplaceOp .Sub) gSub := opI0_g iop_sub fun _ _ _ => rp_int.mpr rfl
/-- xs[i] op= e of a list -/
def rGetL (K : PySem.W.Frag) : R2 := fun o i H Q => ∃ p xs j x, o = .ref p ∧ i = .int j ∧ SqL K H p xs ∧ atI xs j = some x ∧ Q x H
theorem get_list : PGet X (rGetL X.K) := by
  intro pins s σ H x y v u Q I rx ry h
  obtain ⟨p, xs, i, z, rfl, rfl, hq, he, q⟩ := h
  cases rx
  obtain ⟨t, rfl⟩ := ry
  obtain ⟨its, r, pl, hz⟩ := I.list hq
  obtain ⟨j, h1, h2, h3, h4, h5⟩ := atI_get he
  obtain ⟨w, ew, rw'⟩ := r.get h2
  have hl := r.length
  have hn := line63
  have hsz : its.toArray.size = xs.length := by rw [List.size_toArray, hl]
  have fin : EP X pins σ Q w s := ⟨z, H, I, rw', q⟩
  by_cases h0 : 0 ≤ i
  · have hj : i.toNat = j := Option.some.inj ((seqIndex_of h0 h5).symm.trans h1)
    refine wpAny_getItem_list pl.isList h0 (by omega) ?_ fin
    rw [hj]
    simpa using ew
  · have hj : (i + (its.toArray.size : Int)).toNat = j := by
      rw [hsz]
      exact Option.some.inj ((seqIndex_neg (by omega) h4).symm.trans h1)
    refine wpAny_getItem_list_neg pl.isList (by omega) (by rw [hsz]; omega) (by omega) ?_ fin
    rw [hj]
    simpa using ew
def sAugS (g : Val → Val → Sto → Option (Val × Sto)) (fo fi fe : Ef) : Sf := fun ρ S => match fo ρ S with
  | some (o, S1) => match fi ρ S1 with
    | some (i, S2) => match gIx o i S2 with
      | some (x, S3) => match fe ρ S3 with
        | some (y, S4) => match g x y S4 with
          | some (z, S5) => match setIx o i z S5 with
            | some S6 => some (.nx, ρ, S6)
            | none => none
          | none => none
        | none => none
      | none => none
    | none => none
  | none => none
theorem gIx_list {F H : Hp} {m : List Addr} {S S' : Sto} {k : Nat} {i res : Val} {v w : V} {Q : VK} (ok : SOk K F m H S) (ra : RV K F m (.c k) v) (rb : RV K F m i w) (e : gIx (.c k) i S = some (res, S')) (kk : Kt K F m H Q res S') : rGetL K v w H Q := by
  unfold gIx at e
  split at e
  · rename_i j
    cases rv_int.mp rb
    have e : (match viewQ S (.c k) with | some xs => (atI xs j).map fun x => (x, S) | none => none) = some (res, S') := e
    split at e
    · rename_i xs h1
      cases q : atI xs j with
      | none => rw [q] at e; cases e
      | some x =>
        rw [q] at e; cases e
        obtain ⟨p, ws, rfl, q1, q2⟩ := viewL_ok ok (show viewL S (.c k) = some xs from h1) ra
        obtain ⟨y, h2, h3⟩ := atI_pr q2 q
        exact ⟨p, ws, j, y, rfl, rfl, q1, h2, kk.here ok h3⟩
    · cases e
  · cases e
theorem ss_augS {op : Operator} {tpos : Pos} {g : Val → Val → Sto → Option (Val × Sto)} (hg : OpG X (inplaceOp op) g) (ho : EE X a fa) (hi : EE X b fb) (he : EE X e fc)
    (hs : ∀ ov iv new, augStore b ov iv new = (do holding [new, ov, iv] (setItem ov iv new); release [new, ov, iv] []; pure .next) := by intros; rfl) : SS X (.AugAssign (.Subscript a b tpos) op e pos) (sAugS g fa fb fc) := by
  obtain ⟨r, h1, h2⟩ := hg
  refine ss_of (ps_augS ho hi get_list he (tip := r) h1 set_list hs) fun F m H S ρ σ fl ρ' S' ok ro e D k => ?_
  unfold sAugS at e
  split at e
  · rename_i o S1 q1
    split at e
    · rename_i i S2 q2
      split at e
      · rename_i x S3 q3
        split at e
        · rename_i y S4 q4
          split at e
          · rename_i z S5 q5
            split at e
            · rename_i S6 q6
              cases e
              have hk : ∃ kk, o = .c kk := by
                unfold setIx at q6
                split at q6
                · exact ⟨_, rfl⟩
                · cases q6
              obtain ⟨kk, rfl⟩ := hk
              refine sndE ok ro q1 _ fun v1 F1 m1 H1 st1 ok1 r1 => ?_
              refine sndE ok1 (ro_mono st1 ro) q2 _ fun v2 F2 m2 H2 st2 ok2 r2 => ?_
              refine gIx_list ok2 (rv_mono st2 r1) r2 q3 fun v3 F3 m3 H3 st3 ok3 r3 => ?_
              have s3 := (st1.trans st2).trans st3
              refine sndE ok3 (ro_mono s3 ro) q4 _ fun v4 F4 m4 H4 st4 ok4 r4 => ?_
              refine h2 ok4 (rv_mono st4 r3) r4 q5 _ fun v5 F5 m5 H5 st5 ok5 r5 => ?_
              have s25 := (st3.trans st4).trans st5
              refine setIx_ok ok5 (rv_mono (st2.trans s25) r1) (rv_mono s25 r2) r5 q6 fun F6 m6 H6 st6 ok6 => ?_
              have sall := ((s3.trans st4).trans st5).trans st6
              exact k _ _ _ _ sall ok6 (ro_mono sall ro)
            · cases e
          · cases e
        · cases e
      · cases e
    · cases e
  · cases e

/-! ### methods of lists -/
def RM (K : PySem.W.Frag) (r : V → List V → Hp → VK → Prop) (g : Val → List Val → Sto → Option (Val × Sto)) : Prop := ∀ ⦃F m H S a as v vs res S'⦄, SOk K F m H S → RV K F m a v → Paired (RV K F m) as vs → g a as S = some (res, S') → ∀ Q : VK, Kt K F m H Q res S' → r v vs H Q
def eMt (g : Val → List Val → Sto → Option (Val × Sto)) (fo : Ef) (fs : Af) : Ef := fun ρ S => bnd (fo ρ S) fun o S1 => if (viewL S1 o).isSome = true then bnd (fs ρ S1) fun as S2 => g o as S2 else none
theorem ee_mt {x : Str} {apos : Pos} {id : String} {r : V → List V → Hp → VK → Prop} {g : Val → List Val → Sto → Option (Val × Sto)} (slot : Slot "list" x id) (hty : typeOf (.builtin id) = pure (.type "method_descriptor")) (hm : MtR X id r) (hg : RM X.K r g) (ho : EE X a fa) (ha : EA X (e :: es) fs)
    (hbase : attributeBase a x X.env (eval a X.env) = eval a X.env := by rfl)
    (hfew : ((backTo pos (starEach (e :: es) X.env)).all (fun x => !x.1) && (backToKw pos (keywordEach [] X.env)).all (fun x => x.1.isSome)
      && decide ((e :: es).length + ([] : List Keyword).length + (if ([] : List Keyword).isEmpty then 0 else 1) < 30)) = true := by rfl)
    (hline : (apos.endLine == pos.line) = true := by rfl) (hs : starEach (e :: es) X.env = (false, eval e X.env) :: starEach es X.env := by rfl) (hplain : (backTo pos (starEach es X.env)).any (·.1) = false := by rfl) :
    EE X (.Call (.Attribute a x apos) (e :: es) [] pos) (eMt g fa fs) :=
  ee_of (pe_bm PySem.F.plainAttrs_list slot hty hm ho ha hbase hfew hline hs hplain) fun F m H S ρ σ res S' ok ro e Q k => by
    obtain ⟨o, S1, e1, e⟩ := bnd_inv e
    split at e
    · rename_i hv
      obtain ⟨as, S2, e2, e⟩ := bnd_inv e
      refine sndE ok ro e1 _ fun v F1 m1 H1 st1 ok1 r1 => ?_
      obtain ⟨xs, hv⟩ := Option.isSome_iff_exists.mp hv
      obtain ⟨p, ws, rfl, q1, q2⟩ := viewL_ok ok1 hv r1
      refine ⟨.inl ⟨rfl, ws, q1⟩, sndA ok1 (ro_mono st1 ro) e2 _ fun vs F2 m2 H2 st2 ok2 r2 => ?_⟩
      exact hg ok2 (rv_mono st2 r1) r2 e Q (k.on (st1.trans st2))
    · cases e
def gAppend : Val → List Val → Sto → Option (Val × Sto)
  | .c k, [y], S => match S[k]? with
    | some (.lst xs) => if xs.length < sizeLine then some (.d .none, S.set k (.lst (xs ++ [y]))) else none
    | _ => none
  | _, _, _ => none
theorem rm_append : RM K rAppend gAppend := fun F m H S a as v vs res S' ok ra rs e Q k => by
  unfold gAppend at e
  split at e
  · rename_i kk y
    split at e
    · rename_i xs h1
      split at e
      · rename_i hz
        cases e
        obtain ⟨p, hm, rfl⟩ := ra
        obtain ⟨hF, ws, h3, h4⟩ := ok.cell _ _ _ hm h1
        cases rs with
        | cons r1 t =>
          cases t
          refine ⟨p, ws, _, rfl, rfl, h3, by rw [← pr_len h4]; exact hz, ?_⟩
          obtain ⟨ok2, st2⟩ := al_M ok hm h1 (pr_append h4 (.cons r1 .nil))
          exact k _ _ _ _ st2 ok2 (rv_none.mpr rfl)
      · cases e
    · cases e
  · cases e
theorem ee_append {apos : Pos} (ho : EE X a fa) (ha : EA X [e] fs)
    (hbase : attributeBase a "append" X.env (eval a X.env) = eval a X.env := by rfl)
    (hfew : ((backTo pos (starEach [e] X.env)).all (fun x => !x.1) && (backToKw pos (keywordEach [] X.env)).all (fun x => x.1.isSome)
      && decide ([e].length + ([] : List Keyword).length + (if ([] : List Keyword).isEmpty then 0 else 1) < 30)) = true := by rfl)
    (hline : (apos.endLine == pos.line) = true := by rfl) (hs : starEach [e] X.env = (false, eval e X.env) :: starEach [] X.env := by rfl) (hplain : (backTo pos (starEach [] X.env)).any (·.1) = false := by rfl) :
    EE X (.Call (.Attribute a "append" apos) [e] [] pos) (eMt gAppend fa fs) := ee_mt PySem.F.slot_list_append PySem.F.type_list_append mt_append rm_append ho ha hbase hfew hline hs hplain
def gInsert : Val → List Val → Sto → Option (Val × Sto)
  | .c k, [.d (.int i), y], S => match S[k]? with
    | some (.lst xs) => if xs.length < sizeLine ∧ 0 ≤ i ∧ i < 2 ^ 63 then some (.d .none, S.set k (.lst (xs.take i.toNat ++ [y] ++ xs.drop i.toNat))) else none
    | _ => none
  | _, _, _ => none
def rInsert : V → List V → Hp → VK → Prop := fun x vs H Q => ∃ (l : Addr) (xs : List V) (i : Int) (y : V), x = .ref l ∧ vs = [.int i, y] ∧ H l = some (.lst xs) ∧ xs.length < sizeLine ∧ 0 ≤ i ∧ i < 2 ^ 63 ∧ Q .non (upd H l (.lst (xs.take i.toNat ++ [y] ++ xs.drop i.toNat)))
theorem rm_insert : RM K rInsert gInsert := fun F m H S a as v vs res S' ok ra rs e Q k => by
  unfold gInsert at e
  split at e
  · rename_i kk i y
    split at e
    · rename_i xs h1
      split at e
      · rename_i hz
        cases e
        obtain ⟨p, hm, rfl⟩ := ra
        obtain ⟨hF, ws, h3, h4⟩ := ok.cell _ _ _ hm h1
        cases rs with
        | cons r1 t =>
          cases t with
          | cons r2 t =>
            cases t
            cases rv_int.mp r1
            refine ⟨p, ws, i, _, rfl, rfl, h3, by rw [← pr_len h4]; exact hz.1, hz.2.1, hz.2.2, ?_⟩
            obtain ⟨ok2, st2⟩ := al_M ok hm h1 (pr_append (pr_append (pr_take i.toNat h4) (.cons r2 .nil)) (pr_drop i.toNat h4))
            exact k _ _ _ _ st2 ok2 (rv_none.mpr rfl)
      · cases e
    · cases e
  · cases e
theorem ee_insert {apos : Pos} {e2 : Expr} (ho : EE X a fa) (ha : EA X [e, e2] fs)
    (hbase : attributeBase a "insert" X.env (eval a X.env) = eval a X.env := by rfl)
    (hfew : ((backTo pos (starEach [e, e2] X.env)).all (fun x => !x.1) && (backToKw pos (keywordEach [] X.env)).all (fun x => x.1.isSome)
      && decide ([e, e2].length + ([] : List Keyword).length + (if ([] : List Keyword).isEmpty then 0 else 1) < 30)) = true := by rfl)
    (hline : (apos.endLine == pos.line) = true := by rfl) (hs : starEach [e, e2] X.env = (false, eval e X.env) :: starEach [e2] X.env := by rfl) (hplain : (backTo pos (starEach [e2] X.env)).any (·.1) = false := by rfl) :
    EE X (.Call (.Attribute a "insert" apos) [e, e2] [] pos) (eMt gInsert fa fs) := ee_mt PySem.F.slot_list_insert PySem.F.type_list_insert mt_insert rm_insert ho ha hbase hfew hline hs hplain

/-! ### what is walked -/
abbrev If := Rho → Sto → Option (List PyData × Sto)
def ItOk (K : PySem.W.Frag) (J : It) (F : Hp) (ds : List PyData) : Prop := ∀ i F1 m1 H1 S1, Same F F1 → SOk K F1 m1 H1 S1 → (i < ds.length → J.go i H1) ∧ (ds.length ≤ i → J.stop i H1) ∧
  ∀ x H2, i < ds.length → J.yld i H1 x H2 → ∃ d F2, ds[i]? = some d ∧ Stp F1 m1 H1 F2 m1 H2 ∧ SOk K F2 m1 H2 S1 ∧ Rp K F2 d x ∧ (∀ a o, H1 a = some o → H2 a = some o)
def tI (K : PySem.W.Frag) (f : If) : TI := fun σ H R => ∃ F m S ρ ds S', SOk K F m H S ∧ ROk K F m ρ σ ∧ f ρ S = some (ds, S') ∧ ∀ J F' m' H', Stp F m H F' m' H' → SOk K F' m' H' S' → ItOk K J F' ds → R J H'
def EI (X : Cx) (tg iter : Expr) (f : If) : Prop := PI X tg iter (tI X.K f)
def SndI (K : PySem.W.Frag) (w : TI) (f : If) : Prop := ∀ ⦃F m H S ρ σ ds S'⦄, SOk K F m H S → ROk K F m ρ σ → f ρ S = some (ds, S') → ∀ R : It → Hp → Prop, (∀ J F' m' H', Stp F m H F' m' H' → SOk K F' m' H' S' → ItOk K J F' ds → R J H') → w σ H R
theorem ei_of {tg it : Expr} {t : TI} {f : If} (h : PI X tg it t) (s : SndI X.K t f) : EI X tg it f := ⟨fun pins s' σ H R I ⟨_, _, _, _, _, _, ok, ro, e, k⟩ => h.run pins s' σ H R I (s ok ro e R k)⟩
theorem sndI {f : If} : SndI K (tI K f) f := fun _ _ _ _ _ _ _ _ ok ro e _ k => ⟨_, _, _, _, _, _, ok, ro, e, k⟩
theorem get_lt {α : Type} {xs : List α} {i : Nat} (h : i < xs.length) : ∃ x, xs[i]? = some x := ⟨xs[i], List.getElem?_eq_getElem h⟩
theorem itok_list {F : Hp} {p : Addr} {vs : List V} {ds : List PyData} (h : F p = some (.lst vs)) (hv : Paired (Rp K F) ds vs) : ItOk K (Itl K p) F ds := fun i F1 m1 H1 S1 ex ok => by
  have hq : SqL K H1 p vs := .of (ok.ex _ _ (ex _ _ h))
  refine ⟨fun hi => ?_, fun hi => ⟨vs, hq, by rw [← pr_len hv]; exact hi⟩, fun x H2 hlt hy => ?_⟩
  · obtain ⟨x, hx⟩ := get_lt (xs := vs) (i := i) (by rw [← pr_len hv]; exact hi)
    exact ⟨vs, x, hq, hx⟩
  · obtain ⟨rfl, hy⟩ := hy
    obtain ⟨d, h1, h2⟩ := pr_get' hv (hy vs hq)
    exact ⟨d, F1, h1, Stp.refl, ok, rp_mono ex d x h2, fun _ _ h => h⟩
theorem itok_tup {F : Hp} {p : Addr} {vs : List V} {ds : List PyData} (h : SqT K F p vs) (hv : Paired (Rp K F) ds vs) : ItOk K (Itt K p) F ds := fun i F1 m1 H1 S1 ex ok => by
  have hq : SqT K H1 p vs := same_t ok.ex (same_t ex h)
  refine ⟨fun hi => ?_, fun hi => ⟨vs, hq, by rw [← pr_len hv]; exact hi⟩, fun x H2 hlt hy => ?_⟩
  · obtain ⟨x, hx⟩ := get_lt (xs := vs) (i := i) (by rw [← pr_len hv]; exact hi)
    exact ⟨vs, x, hq, hx⟩
  · obtain ⟨rfl, hy⟩ := hy
    obtain ⟨d, h1, h2⟩ := pr_get' hv (hy vs hq)
    exact ⟨d, F1, h1, Stp.refl, ok, rp_mono ex d x h2, fun _ _ h => h⟩
/-- a list's, a tuple's items (data) -/
def itemsD : Val → Option (List PyData)
  | .d (.list ds) => some ds
  | .d (.tuple ds) => some ds
  | _ => none
def iSq (f : Ef) : If := fun ρ S => match f ρ S with
  | some (a, S1) => match itemsD a with
    | some ds => some (ds, S1)
    | none => none
  | none => none
/-- the walked thing is a list or a tuple -/
def iSeq (K : PySem.W.Frag) (tl : TE) : TI := fun σ H R => tl σ H fun x H1 => ∃ a, x = .ref a ∧ (((∃ xs, SqL K H1 a xs) ∧ R (Itl K a) H1) ∨ ((∃ xs, SqT K H1 a xs) ∧ R (Itt K a) H1))
theorem pi_seq {tg l : Expr} {tl : TE} (hl : PE X l tl) : PI X tg l (iSeq X.K tl) := by
  constructor
  intro pins s σ H R I h
  refine thn (hl.run pins s σ H _ I h) fun v s1 ⟨x, H1, I1, r1, a, ex, q⟩ => ?_
  subst ex
  cases r1
  have fp : ∀ c ∈ [s1.heap.objs.size], FpOk X pins H1 c := fun c hc => by
    rw [List.mem_singleton.mp hc]
    exact I1.fpOk (Nat.le_refl _) I1.fresh
  rcases q with ⟨⟨xs, hq⟩, q⟩ | ⟨⟨xs, hq⟩, q⟩
  · obtain ⟨its, rv, pl, hz⟩ := I1.list hq
    exact wpAny_pyIter_list pl.isList ⟨_, _, _, _, H1, rfl, I1.kept (t' := s1.toks) (fun b o e => Heap.get?_push_of_some _ e), turn_list a _, ⟨_, Heap.get?_push_size _ rfl, rfl, rfl⟩, fp, q⟩
  · obtain ⟨its, rv, pl, hz⟩ := I1.tuple hq
    exact wpAny_pyIter_tuple (show s1.heap.IsTuple a its.toArray from pl) ⟨_, _, _, _, H1, rfl, I1.kept (t' := s1.toks) (fun b o e => Heap.get?_push_of_some _ e), turn_tuple a _, ⟨_, Heap.get?_push_size _ rfl, rfl, rfl⟩, fp, q⟩
theorem ei_seq {tg : Expr} (ha : EE X a fa) : EI X tg a (iSq fa) := ei_of (pi_seq ha) fun F m H S ρ σ ds S' ok ro e R k => by
  unfold iSq at e
  split at e
  · rename_i a S1 q
    split at e
    · rename_i ds q1
      cases e
      refine sndE ok ro q _ fun v F1 m1 H1 st1 ok1 r1 => ?_
      unfold itemsD at q1
      split at q1
      · cases q1
        obtain ⟨p, vs, rfl, h1, h2⟩ := rv_list.mp r1
        exact ⟨p, rfl, .inl ⟨⟨vs, .of (ok1.ex _ _ h1)⟩, k _ _ _ _ st1 ok1 (itok_list h1 h2)⟩⟩
      · cases q1
        obtain ⟨p, vs, rfl, h1, h2⟩ := rv_tuple.mp r1
        exact ⟨p, rfl, .inr ⟨⟨vs, same_t ok1.ex h1⟩, k _ _ _ _ st1 ok1 (itok_tup h1 h2)⟩⟩
      · cases q1
    · cases e
  · cases e
/-- a text's signs -/
def signs (x : Str) : List PyData := x.cps.toList.map fun c => .str ⟨#[c]⟩
def iTx (f : Ef) : If := fun ρ S => match f ρ S with
  | some (.d (.str x), S1) => some (signs x, S1)
  | _ => none
theorem ei_str {tg : Expr} (ha : EE X a fa) : EI X tg a (iTx fa) := ei_of (pi_str ha) fun F m H S ρ σ ds S' ok ro e R k => by
  unfold iTx at e
  split at e
  · rename_i x S1 q
    cases e
    refine sndE ok ro q _ fun v F1 m1 H1 st1 ok1 r1 => ?_
    cases rv_str.mp r1
    refine ⟨x, rfl, k _ _ _ _ st1 ok1 fun i F2 m2 H2 S2 ex ok2 => ?_⟩
    have hl : (signs x).length = x.cps.size := by unfold signs; rw [List.length_map, Array.length_toList]
    refine ⟨fun hi => by rw [hl] at hi; exact hi, fun hi => by rw [hl] at hi; exact hi, fun y H3 hlt hy => ?_⟩
    obtain ⟨rfl, c, hc, rfl⟩ := hy
    refine ⟨.str ⟨#[c]⟩, F2, ?_, Stp.refl, ok2, rp_str.mpr rfl, fun _ _ h => h⟩
    unfold signs
    rw [List.getElem?_map, Array.getElem?_toList, hc]
    rfl
  · cases e
/-- range(n), range(a, b) -/
def rngD (lo : Int) (n : Nat) : List PyData := (List.range n).map fun (i : Nat) => .int (lo + (i : Int))
theorem itok_rng {F : Hp} (lo : Int) (n : Nat) : ItOk K (Itr lo n) F (rngD lo n) := fun i F1 m1 H1 S1 ex ok => by
  have hl : (rngD lo n).length = n := by unfold rngD; rw [List.length_map, List.length_range]
  refine ⟨fun hi => by rw [hl] at hi; exact hi, fun hi => by rw [hl] at hi; exact hi, fun x H2 hlt hy => ?_⟩
  obtain ⟨rfl, rfl⟩ := hy
  rw [hl] at hlt
  refine ⟨.int (lo + i), F1, ?_, Stp.refl, ok, rp_int.mpr rfl, fun _ _ h => h⟩
  unfold rngD
  rw [List.getElem?_map, List.getElem?_range hlt]
  rfl
def small62 (i : Int) : Bool := decide (-(2 ^ 62) ≤ i ∧ i < 2 ^ 62)
def iR1 (fs : Af) : If := fun ρ S => match fs ρ S with
  | some ([.d (.int j)], S1) => if small62 j = true then some (rngD 0 j.toNat, S1) else none
  | _ => none
def iR2 (fs : Af) : If := fun ρ S => match fs ρ S with
  | some ([.d (.int i), .d (.int j)], S1) => if small62 i = true ∧ small62 j = true then some (rngD i (j - i).toNat, S1) else none
  | _ => none
theorem ei_r1 {tg : Expr} {p : Pos} (hm : X.mg "range" = none) (ha : EA X [a] fs) (hg : Gl X "range" := by rfl) (hs : starEach [a] X.env = [(false, eval a X.env)] := by rfl) : EI X tg (.Call (.Name "range" p) [a] [] pos) (iR1 fs) := ei_of (pi_range1 hg hm ha hs) fun F m H S ρ σ ds S' ok ro e R k => by
  unfold iR1 at e
  split at e
  · rename_i j S1 q
    split at e
    · rename_i hj
      cases e
      refine sndA ok ro q _ fun vs F1 m1 H1 st1 ok1 r1 => ?_
      cases r1 with
      | cons r t =>
        cases t
        cases rv_int.mp r
        have hj := of_decide_eq_true hj
        exact ⟨j, rfl, hj.1, hj.2, k _ _ _ _ st1 ok1 (itok_rng 0 j.toNat)⟩
    · cases e
  · cases e
theorem ei_r2 {tg : Expr} {p : Pos} (hm : X.mg "range" = none) (ha : EA X [a, b] fs) (hg : Gl X "range" := by rfl) (hs : starEach [a, b] X.env = [(false, eval a X.env), (false, eval b X.env)] := by rfl) (hs2 : starEach [b] X.env = [(false, eval b X.env)] := by rfl) : EI X tg (.Call (.Name "range" p) [a, b] [] pos) (iR2 fs) := ei_of (pi_range2 hg hm ha hs hs2) fun F m H S ρ σ ds S' ok ro e R k => by
  unfold iR2 at e
  split at e
  · rename_i i j S1 q
    split at e
    · rename_i hj
      cases e
      refine sndA ok ro q _ fun vs F1 m1 H1 st1 ok1 r1 => ?_
      cases r1 with
      | cons r t =>
        cases t with
        | cons r2 t =>
          cases t
          cases rv_int.mp r
          cases rv_int.mp r2
          have h1 := of_decide_eq_true hj.1
          have h2 := of_decide_eq_true hj.2
          exact ⟨i, j, rfl, ⟨h1.1, h1.2, h2.1, h2.2⟩, k _ _ _ _ st1 ok1 (itok_rng i (j - i).toNat)⟩
    · cases e
  · cases e
/-- enumerate(list), zip(list, list): new pairs -/
def enumD : Nat → List PyData → List PyData
  | _, [] => []
  | n, d :: ds => .tuple [.int n, d] :: enumD (n + 1) ds
def zipD : List PyData → List PyData → List PyData
  | d :: ds, e :: es => .tuple [d, e] :: zipD ds es
  | _, _ => []
theorem enumD_len : ∀ (n : Nat) (ds : List PyData), (enumD n ds).length = ds.length
  | _, [] => rfl
  | n, d :: ds => by rw [enumD, List.length_cons, enumD_len (n + 1) ds, List.length_cons]
theorem enumD_get : ∀ (n : Nat) (ds : List PyData) (i : Nat) (d : PyData), ds[i]? = some d → (enumD n ds)[i]? = some (.tuple [.int ((n + i : Nat) : Int), d])
  | _, [], _, _, h => by simp at h
  | n, d :: ds, 0, _, h => by simp at h; subst h; simp [enumD]
  | n, d :: ds, i + 1, x, h => by
    have h' : ds[i]? = some x := by simpa using h
    have q := enumD_get (n + 1) ds i x h'
    rw [enumD, List.getElem?_cons_succ, q, show n + 1 + i = n + (i + 1) by omega]
theorem zipD_len : ∀ (ds es : List PyData), (zipD ds es).length = min ds.length es.length
  | [], _ => by simp [zipD]
  | _ :: _, [] => by simp [zipD]
  | d :: ds, e :: es => by rw [zipD, List.length_cons, zipD_len ds es, List.length_cons, List.length_cons]; omega
theorem zipD_get : ∀ (ds es : List PyData) (i : Nat) (d e : PyData), ds[i]? = some d → es[i]? = some e → (zipD ds es)[i]? = some (.tuple [d, e])
  | [], _, _, _, _, h, _ => by simp at h
  | _ :: _, [], _, _, _, _, h => by simp at h
  | d :: ds, e :: es, 0, _, _, h, h' => by simp at h h'; subst h; subst h'; simp [zipD]
  | d :: ds, e :: es, i + 1, x, y, h, h' => by
    rw [zipD, List.getElem?_cons_succ]
    exact zipD_get ds es i x y (by simpa using h) (by simpa using h')
theorem itok_enum {F : Hp} {p : Addr} {vs : List V} {ds : List PyData} (h : F p = some (.lst vs)) (hv : Paired (Rp K F) ds vs) : ItOk K (Ite K p) F (enumD 0 ds) := fun i F1 m1 H1 S1 ex ok => by
  have hq : SqL K H1 p vs := .of (ok.ex _ _ (ex _ _ h))
  rw [enumD_len]
  refine ⟨fun hi => ?_, fun hi => ⟨vs, hq, by rw [← pr_len hv]; exact hi⟩, fun x H2 hlt hy => ?_⟩
  · obtain ⟨x, hx⟩ := get_lt (xs := vs) (i := i) (by rw [← pr_len hv]; exact hi)
    exact ⟨vs, x, hq, hx⟩
  · obtain ⟨T, x, rfl, hT, rfl, hy⟩ := hy
    obtain ⟨d, h1, h2⟩ := pr_get' hv (hy vs hq)
    obtain ⟨o1, o2⟩ := al_F (o := .tup [.int (i : Nat), x]) ok hT
    have q := enumD_get 0 ds i d h1
    rw [Nat.zero_add] at q
    exact ⟨_, _, q, o2, o1, rp_tuple.mpr ⟨T, _, rfl, .of upd_same, .cons (rp_int.mpr rfl) (.cons (rp_mono (ex.trans o2.ex) d x h2) .nil)⟩, fun b o hb => by rw [upd_ne (ne_of_none hb hT)]; exact hb⟩
theorem itok_zip {F : Hp} {p p' : Addr} {vs vs' : List V} {ds ds' : List PyData} (h : F p = some (.lst vs)) (hv : Paired (Rp K F) ds vs) (h' : F p' = some (.lst vs')) (hv' : Paired (Rp K F) ds' vs') : ItOk K (Itz K p p') F (zipD ds ds') := fun i F1 m1 H1 S1 ex ok => by
  have hq : SqL K H1 p vs := .of (ok.ex _ _ (ex _ _ h))
  have hq' : SqL K H1 p' vs' := .of (ok.ex _ _ (ex _ _ h'))
  have l1 := pr_len hv
  have l2 := pr_len hv'
  rw [zipD_len]
  refine ⟨fun hi => ?_, fun hi => ⟨vs, vs', hq, hq', by omega⟩, fun x H2 hlt hy => ?_⟩
  · obtain ⟨x, hx⟩ := get_lt (xs := vs) (i := i) (by omega)
    obtain ⟨y, hy⟩ := get_lt (xs := vs') (i := i) (by omega)
    exact ⟨vs, vs', x, y, hq, hq', hx, hy⟩
  · obtain ⟨T, x, y, rfl, hT, rfl, hy, hy'⟩ := hy
    obtain ⟨d, h1, h2⟩ := pr_get' hv (hy vs hq)
    obtain ⟨d', h1', h2'⟩ := pr_get' hv' (hy' vs' hq')
    obtain ⟨o1, o2⟩ := al_F (o := .tup [x, y]) ok hT
    exact ⟨_, _, zipD_get ds ds' i d d' h1 h1', o2, o1, rp_tuple.mpr ⟨T, _, rfl, .of upd_same, .cons (rp_mono (ex.trans o2.ex) d x h2) (.cons (rp_mono (ex.trans o2.ex) d' y h2') .nil)⟩, fun b o hb => by rw [upd_ne (ne_of_none hb hT)]; exact hb⟩
theorem itok_zipT {F : Hp} {p p' : Addr} {vs vs' : List V} {ds ds' : List PyData} (h : SqT K F p vs) (hv : Paired (Rp K F) ds vs) (h' : SqT K F p' vs') (hv' : Paired (Rp K F) ds' vs') : ItOk K (RZ.ItzT K p p') F (zipD ds ds') := fun i F1 m1 H1 S1 ex ok => by
  have hq : SqT K H1 p vs := same_t ok.ex (same_t ex h)
  have hq' : SqT K H1 p' vs' := same_t ok.ex (same_t ex h')
  have l1 := pr_len hv
  have l2 := pr_len hv'
  rw [zipD_len]
  refine ⟨fun hi => ?_, fun hi => ⟨vs, vs', hq, hq', by omega⟩, fun x H2 hlt hy => ?_⟩
  · obtain ⟨x, hx⟩ := get_lt (xs := vs) (i := i) (by omega)
    obtain ⟨y, hy⟩ := get_lt (xs := vs') (i := i) (by omega)
    exact ⟨vs, vs', x, y, hq, hq', hx, hy⟩
  · obtain ⟨T, x, y, rfl, hT, rfl, hy, hy'⟩ := hy
    obtain ⟨d, h1, h2⟩ := pr_get' hv (hy vs hq)
    obtain ⟨d', h1', h2'⟩ := pr_get' hv' (hy' vs' hq')
    obtain ⟨o1, o2⟩ := al_F (o := .tup [x, y]) ok hT
    exact ⟨_, _, zipD_get ds ds' i d d' h1 h1', o2, o1, rp_tuple.mpr ⟨T, _, rfl, .of upd_same, .cons (rp_mono (ex.trans o2.ex) d x h2) (.cons (rp_mono (ex.trans o2.ex) d' y h2') .nil)⟩, fun b o hb => by rw [upd_ne (ne_of_none hb hT)]; exact hb⟩
def iEn (fs : Af) : If := fun ρ S => match fs ρ S with
  | some ([.d (.list ds)], S1) => some (enumD 0 ds, S1)
  | _ => none
def iZp (fs : Af) : If := fun ρ S => match fs ρ S with
  | some ([.d (.list ds), .d (.list es)], S1) => some (zipD ds es, S1)
  | some ([.d (.tuple ds), .d (.tuple es)], S1) => some (zipD ds es, S1)
  | _ => none
theorem ei_enum {tpos p : Pos} {elts : List Expr} {kk : Nat} (hm : X.mg "enumerate" = none) (ha : EA X [a] fs) (hg : Gl X "enumerate" := by rfl) (hs : starEach [a] X.env = [(false, eval a X.env)] := by rfl) : EI X (.Tuple elts kk tpos) (.Call (.Name "enumerate" p) [a] [] pos) (iEn fs) := ei_of (pi_enum hg hm ha hs) fun F m H S ρ σ ds S' ok ro e R k => by
  unfold iEn at e
  split at e
  · rename_i xs S1 q
    cases e
    refine sndA ok ro q _ fun vs F1 m1 H1 st1 ok1 r1 => ?_
    cases r1 with
    | cons r t =>
      cases t
      obtain ⟨p, ws, rfl, h1, h2⟩ := rv_list.mp r
      exact ⟨p, ws, rfl, .of (ok1.ex _ _ h1), k _ _ _ _ st1 ok1 (itok_enum h1 h2)⟩
  · cases e
theorem ei_zip {tpos p : Pos} {elts : List Expr} {kk : Nat} (hm : X.mg "zip" = none) (ha : EA X [a, b] fs) (hg : Gl X "zip" := by rfl) (hs : starEach [a, b] X.env = (false, eval a X.env) :: starEach [b] X.env := by rfl) (hpl : (backTo pos (starEach [b] X.env)).any (·.1) = false := by rfl) : EI X (.Tuple elts kk tpos) (.Call (.Name "zip" p) [a, b] [] pos) (iZp fs) := ei_of (RZ.pi_zipA hg hm ha hs hpl) fun F m H S ρ σ ds S' ok ro e R k => by
  unfold iZp at e
  split at e
  · rename_i xs ys S1 q
    cases e
    refine sndA ok ro q _ fun vs F1 m1 H1 st1 ok1 r1 => ?_
    cases r1 with
    | cons r t =>
      cases t with
      | cons r2 t =>
        cases t
        obtain ⟨p, ws, rfl, h1, h2⟩ := rv_list.mp r
        obtain ⟨p', ws', rfl, h1', h2'⟩ := rv_list.mp r2
        exact ⟨p, p', ws, ws', rfl, .inl ⟨.of (ok1.ex _ _ h1), .of (ok1.ex _ _ h1'), k _ _ _ _ st1 ok1 (itok_zip h1 h2 h1' h2')⟩⟩
  · rename_i xs ys S1 q
    cases e
    refine sndA ok ro q _ fun vs F1 m1 H1 st1 ok1 r1 => ?_
    cases r1 with
    | cons r t =>
      cases t with
      | cons r2 t =>
        cases t
        obtain ⟨p, ws, rfl, h1, h2⟩ := rv_tuple.mp r
        obtain ⟨p', ws', rfl, h1', h2'⟩ := rv_tuple.mp r2
        exact ⟨p, p', ws, ws', rfl, .inr ⟨same_t ok1.ex h1, same_t ok1.ex h1', k _ _ _ _ st1 ok1 (itok_zipT h1 h2 h1' h2')⟩⟩
  · cases e

/-! ### for -/
def forL (fg : Gf) (fb : Sf) : List PyData → Rho → Sto → Option (Fl × Rho × Sto)
  | [], ρ, S => some (.nx, ρ, S)
  | d :: r, ρ, S => match fg (.d d) ρ S with
    | some (ρ1, S1) => match fb ρ1 S1 with
      | some (.nx, ρ2, S2) => forL fg fb r ρ2 S2
      | some (.ct, ρ2, S2) => forL fg fb r ρ2 S2
      | some (.bk, ρ2, S2) => some (.nx, ρ2, S2)
      | some (.rt v, ρ2, S2) => some (.rt v, ρ2, S2)
      | none => none
    | none => none
def sFor (fi : If) (fg : Gf) (fb : Sf) : Sf := fun ρ S => match fi ρ S with
  | some (ds, S1) => forL fg fb ds ρ S1
  | none => none
theorem drop_get {α : Type} {xs : List α} {i : Nat} {x : α} (h : xs[i]? = some x) : xs.drop i = x :: xs.drop (i + 1) := by
  obtain ⟨h1, h2⟩ := List.getElem?_eq_some_iff.mp h
  rw [List.drop_eq_getElem_cons h1, h2]
theorem snd_for {fi : If} {fg : Gf} {fb : Sf} : SndS K (tFor (tI K fi) (tG K fg) (tS K fb)) (sFor fi fg fb) := fun F m H S ρ σ fl ρ' S' ok ro e D k => by
  unfold sFor at e
  split at e
  · rename_i ds S1 q
    refine sndI ok ro q _ fun J F1 m1 H1 st1 ok1 it => ?_
    refine ⟨fun i n σ2 H2 => n = ds.length - i ∧ i ≤ ds.length ∧ ∃ F2 m2 S2 ρ2, Stp F1 m1 H1 F2 m2 H2 ∧ SOk K F2 m2 H2 S2 ∧ ROk K F2 m2 ρ2 σ2 ∧ forL fg fb (ds.drop i) ρ2 S2 = some (fl, ρ', S'), ⟨ds.length, rfl, Nat.zero_le _, F1, m1, S1, ρ, Stp.refl, ok1, ro_mono st1 ro, e⟩, ?_⟩
    rintro i n σ2 H2 ⟨rfl, hi, F2, m2, S2, ρ2, st2, ok2, ro2, e2⟩
    obtain ⟨g1, g2, g3⟩ := it i F2 m2 H2 S2 st2.ex ok2
    by_cases hlt : i < ds.length
    · refine .inr ⟨g1 hlt, fun σ3 H3 => ∃ F3 m3 S3 ρ3, Stp F1 m1 H1 F3 m3 H3 ∧ SOk K F3 m3 H3 S3 ∧ ROk K F3 m3 ρ3 σ3 ∧ forL fg fb (ds.drop (i + 1)) ρ3 S3 = some (fl, ρ', S'), fun σ3 H3 ⟨F3, m3, S3, ρ3, h⟩ => ⟨ds.length - (i + 1), by omega, rfl, hlt, F3, m3, S3, ρ3, h⟩, fun x H3 hy => ?_⟩
      obtain ⟨d, F3, hd, st3, ok3, r3, _⟩ := g3 x H3 hlt hy
      rw [drop_get hd] at e2
      rw [forL] at e2
      split at e2
      · rename_i ρ4 S4 q4
        refine sndG ok3 (ro_mono st3 ro2) (a := .d d) r3 q4 _ fun σ4 F4 m4 H4 st4 ok4 ro4 => ?_
        have s4 := (st2.trans st3).trans st4
        split at e2
        · rename_i ρ5 S5 q5
          exact sndS ok4 ro4 q5 _ fun σ5 F5 m5 H5 st5 ok5 ro5 => ⟨F5, m5, S5, ρ5, s4.trans st5, ok5, ro5, e2⟩
        · rename_i ρ5 S5 q5
          exact sndS ok4 ro4 q5 _ fun σ5 F5 m5 H5 st5 ok5 ro5 => ⟨F5, m5, S5, ρ5, s4.trans st5, ok5, ro5, e2⟩
        · rename_i ρ5 S5 q5
          cases e2
          exact sndS ok4 ro4 q5 _ fun σ5 F5 m5 H5 st5 ok5 ro5 => k σ5 F5 m5 H5 ((st1.trans s4).trans st5) ok5 ro5
        · rename_i v ρ5 S5 q5
          cases e2
          exact sndS ok4 ro4 q5 _ fun w F5 m5 H5 st5 ok5 r5 => k w F5 m5 H5 ((st1.trans s4).trans st5) ok5 r5
        · cases e2
      · cases e2
    · have ei : i = ds.length := by omega
      subst ei
      rw [List.drop_length] at e2
      cases e2
      exact .inl ⟨g2 (Nat.le_refl _), k σ2 F2 m2 H2 (st1.trans st2) ok2 ro2⟩
  · cases e
theorem ss_for {tg iter : Expr} {body : List Stmt} {fi : If} {fg : Gf} {fb : Sf} (hi : EI X tg iter fi) (hg : EG X tg fg) (hb : SSs X body fb) (hp : PassesOwn (model X.prog X.w) X.A X.env X.xe := by exact PassesOwn.never) (hc : X.calm = true := by rfl)
    (hs : ∀ x, foldedSetIterable iter X.env x = pure x := by intro _; rfl) : SS X (.For tg iter body [] pos) (sFor fi fg fb) := ss_of (ps_for hp hc hi hg hb hs) snd_for

/-! ### while -/
def whileN (f : Tf) (fb : Sf) : Nat → Rho → Sto → Option (Fl × Rho × Sto)
  | 0, _, _ => none
  | n + 1, ρ, S => match f ρ S with
    | some (true, S1) => match fb ρ S1 with
      | some (.nx, ρ2, S2) => whileN f fb n ρ2 S2
      | some (.ct, ρ2, S2) => whileN f fb n ρ2 S2
      | some (.bk, ρ2, S2) => some (.nx, ρ2, S2)
      | some (.rt v, ρ2, S2) => some (.rt v, ρ2, S2)
      | none => none
    | some (false, S1) => some (.nx, ρ, S1)
    | none => none
theorem snd_while {f : Tf} {fb : Sf} (fuel : Nat) : SndS K (tWhile (tT K f) (tS K fb)) (whileN f fb fuel) := fun F m H S ρ σ fl ρ' S' ok ro e D k => by
  refine ⟨fun n σ2 H2 => ∃ F2 m2 S2 ρ2, Stp F m H F2 m2 H2 ∧ SOk K F2 m2 H2 S2 ∧ ROk K F2 m2 ρ2 σ2 ∧ whileN f fb n ρ2 S2 = some (fl, ρ', S'), ⟨fuel, F, m, S, ρ, Stp.refl, ok, ro, e⟩, ?_⟩
  rintro n σ2 H2 ⟨F2, m2, S2, ρ2, st2, ok2, ro2, e2⟩
  cases n with
  | zero => cases e2
  | succ n =>
    rw [whileN] at e2
    split at e2
    · rename_i S3 q3
      refine sndT ok2 ro2 q3 _ fun F3 m3 H3 st3 ok3 => ?_
      rw [if_pos rfl]
      have s3 := st2.trans st3
      refine ⟨fun σ4 H4 => ∃ F4 m4 S4 ρ4, Stp F m H F4 m4 H4 ∧ SOk K F4 m4 H4 S4 ∧ ROk K F4 m4 ρ4 σ4 ∧ whileN f fb n ρ4 S4 = some (fl, ρ', S'), fun σ4 H4 h => ⟨n, Nat.lt_succ_self n, h⟩, ?_⟩
      split at e2
      · rename_i ρ5 S5 q5
        exact sndS ok3 (ro_mono st3 ro2) q5 _ fun σ5 F5 m5 H5 st5 ok5 ro5 => ⟨F5, m5, S5, ρ5, s3.trans st5, ok5, ro5, e2⟩
      · rename_i ρ5 S5 q5
        exact sndS ok3 (ro_mono st3 ro2) q5 _ fun σ5 F5 m5 H5 st5 ok5 ro5 => ⟨F5, m5, S5, ρ5, s3.trans st5, ok5, ro5, e2⟩
      · rename_i ρ5 S5 q5
        cases e2
        exact sndS ok3 (ro_mono st3 ro2) q5 _ fun σ5 F5 m5 H5 st5 ok5 ro5 => k σ5 F5 m5 H5 (s3.trans st5) ok5 ro5
      · rename_i v ρ5 S5 q5
        cases e2
        exact sndS ok3 (ro_mono st3 ro2) q5 _ fun w F5 m5 H5 st5 ok5 r5 => k w F5 m5 H5 (s3.trans st5) ok5 r5
      · cases e2
    · rename_i S3 q3
      cases e2
      refine sndT ok2 ro2 q3 _ fun F3 m3 H3 st3 ok3 => ?_
      rw [if_neg Bool.false_ne_true]
      exact k σ2 F3 m3 H3 (st2.trans st3) ok3 (ro_mono st3 ro2)
    · cases e2
theorem ss_while (fuel : Nat) {body : List Stmt} {fb : Sf} (hc : ET X c f) (hb : SSs X body fb) (hp : PassesOwn (model X.prog X.w) X.A X.env X.xe := by exact PassesOwn.never) : SS X (.While c body [] pos) (whileN f fb fuel) := ss_of (ps_while hp hc hb) (snd_while fuel)
end
end QL

namespace QL
open PySem PySem.Spec PyProof.Rows L2
section
variable {X : Cx} {K : PySem.W.Frag} {a b c e : Expr} {es : List Expr} {pos : Pos} {f g h : Tf} {fa fb fc : Ef} {fs : Af} {st : Stmt} {rest : List Stmt} {u v : Sf}
/-! ### comprehensions -/
def wipeR (ρ : Rho) : List Nat → Rho
  | [] => ρ
  | v :: vs => (wipeR ρ vs).set v none
theorem ro_wipe {F : Hp} {m : List Addr} {ρ : Rho} {σ : L2.St} (h : ROk K F m ρ σ) : ∀ vs, ROk K F m (wipeR ρ vs) (wipe σ vs)
  | [] => h
  | v :: vs => (ro_wipe h vs).clr2 v
def lcL (fg : Gf) (ft : Tf) (fe : Ef) (ρ : Rho) : List PyData → Sto → Option (List Val × Sto)
  | [], S => some ([], S)
  | d :: r, S => match fg (.d d) ρ S with
    | some (ρ1, S1) => match ft ρ1 S1 with
      | some (true, S2) => match fe ρ1 S2 with
        | some (x, S3) => match lcL fg ft fe ρ r S3 with
          | some (xs, S4) => some (x :: xs, S4)
          | none => none
        | none => none
      | some (false, S2) => lcL fg ft fe ρ r S2
      | none => none
    | none => none
def eLc (md : Md) (fi : If) (fg : Gf) (ft : Tf) (fe : Ef) (vs : List Nat) : Ef := fun ρ S => match fi ρ S with
  | some (ds, S1) => if ds.length < sizeLine then match lcL fg ft fe (wipeR ρ vs) ds S1 with
      | some (xs, S2) => alloc md xs S2
      | none => none
    else none
  | none => none
def ETs (X : Cx) (ifs : List Expr) (f : Tf) : Prop := PTs X ifs (tT X.K f)
def fYes : Tf := fun _ S => some (true, S)
theorem ets_nil : ETs X [] fYes := ⟨fun pins s σ H Q I ⟨_, _, _, _, _, _, ok, ro, e, k⟩ => by
  cases e
  exact pts_nil.run pins s σ H Q I (k _ _ _ Stp.refl ok)⟩
theorem ets_one (hc : ET X c f) : ETs X [c] f := pts_one hc
/-- the target stores in its own slots alone -/
def OwnT (fg : Gf) (vs : List Nat) : Prop := ∀ a ρ S ρ' S', fg a ρ S = some (ρ', S') → S' = S
def OwnG (g : TG) (vs : List Nat) : Prop := ∀ (v : V) (σ : L2.St) (H : Hp) (Q : L2.St → Hp → Prop), g v σ H Q → g v σ H fun σ' H' => Q σ' H' ∧ wipe σ' vs = wipe σ vs
theorem wipe_set_mem {vs : List Nat} : ∀ {i : Nat} {x : Option V} (σ : L2.St), i ∈ vs → wipe (σ.set i x) vs = wipe σ vs := by
  induction vs with
  | nil => intro i x σ h; simp at h
  | cons v vs ih =>
    intro i x σ h
    show (wipe (σ.set i x) vs).set v none = (wipe σ vs).set v none
    by_cases hv : i ∈ vs
    · rw [ih σ hv]
    · have hiv : i = v := by
        rcases List.mem_cons.mp h with q | q
        · exact q
        · exact absurd q hv
      subst hiv
      have e : wipe (σ.set i x) vs = (wipe σ vs).set i x := by
        clear ih h
        induction vs generalizing σ with
        | nil => rfl
        | cons w ws ih2 =>
          show (wipe (σ.set i x) ws).set w none = ((wipe σ ws).set w none).set i x
          rw [ih2 σ (fun q => hv (List.mem_cons_of_mem _ q)), List.set_comm]
          intro q
          exact hv (q ▸ List.mem_cons_self ..)
      rw [e, List.set_set]
theorem wipe_wipe (σ : L2.St) (vs : List Nat) : wipe (wipe σ vs) vs = wipe σ vs := by
  have : ∀ (ws : List Nat), (∀ w ∈ ws, w ∈ vs) → wipe (wipe σ ws) vs = wipe σ vs := by
    intro ws
    induction ws with
    | nil => intro _; rfl
    | cons w ws ih =>
      intro h
      show wipe ((wipe σ ws).set w none) vs = wipe σ vs
      rw [wipe_set_mem _ (h w (List.mem_cons_self ..)), ih (fun q hq => h q (List.mem_cons_of_mem _ hq))]
  exact this vs fun _ h => h
/-- a comprehension's target: one name, or a tuple of names, all its own -/
inductive LcT (K : PySem.W.Frag) (vs : List Nat) : TG → Gf → Prop where
  | name (i : Nat) (h : i ∈ vs) : LcT K vs (gName i) (gN i)
  | tup {n : Nat} {t : TGs} {r : Gs} (hr : ∀ ⦃F m H S ρ σ as ws ρ' S'⦄, SOk K F m H S → ROk K F m ρ σ → Paired (RV K F m) as ws → r as ρ S = some (ρ', S') → ∀ Q : L2.St → Hp → Prop, (S' = S → ∀ σ', ROk K F m ρ' σ' → wipe σ' vs = wipe σ vs → Q σ' H) → t ws σ H Q) : LcT K vs (gTup K n t) (gTu n r)
theorem LcT.snd {vs : List Nat} {t : TG} {fg : Gf} (h : LcT K vs t fg) : ∀ ⦃F m H S ρ σ a v ρ' S'⦄, SOk K F m H S → ROk K F m ρ σ → RV K F m a v → fg a ρ S = some (ρ', S') → ∀ Q : L2.St → Hp → Prop, (S' = S → ∀ σ', ROk K F m ρ' σ' → wipe σ' vs = wipe σ vs → Q σ' H) → t v σ H Q := by
  intro F m H S ρ σ a v ρ' S' ok ro ra e Q k
  cases h with
  | name i hi =>
    cases e
    exact k rfl _ (ro.set ra i) (wipe_set_mem σ hi)
  | @tup n t r hr =>
    unfold gTu at e
    split at e
    · split at e
      · rename_i hl
        obtain ⟨p, ws, rfl, h1, h2⟩ := rv_tuple.mp ra
        exact ⟨p, ws, rfl, same_t ok.ex h1, by rw [← pr_len h2]; exact hl, hr ok ro (rp_rvs h2) e Q k⟩
      · cases e
    · cases e
theorem snd_lc {md : Md} {fi : If} {tg : TG} {fg : Gf} {ft : Tf} {fe : Ef} {vs : List Nat} (hg : LcT K vs tg fg) : SndE K (tLc (tI K fi) tg (tT K ft) (tE K fe) vs) (eLc md fi fg ft fe vs) := fun F m H S ρ σ res S' ok ro e Q k => by
  unfold eLc at e
  split at e
  · rename_i ds S1 q
    split at e
    · rename_i hz
      split at e
      · rename_i xs S2 q2
        refine sndI ok ro q _ fun J F1 m1 H1 st1 ok1 it => ?_
        intro D hD
        obtain ⟨hFD, hmD⟩ := ok1.none hD
        have ok1' : SOk K F1 m1 (upd H1 D (.lst [])) S1 := al_O ok1 hFD hmD
        have st0 : Stp F1 m1 H1 F1 m1 (upd H1 D (.lst [])) := ⟨Same.refl _, ⟨[], by simp⟩, fun _ h => .inl h, fun _ h h' => absurd h h', fun b o hb _ => by rw [upd_ne (ne_of_none hb hD)]; exact hb⟩
        -- what stays true from turn to turn
        refine ⟨fun i n H2 => n = ds.length - i ∧ i ≤ ds.length ∧ ∃ F2 m2 S3 acc ws ys, Stp F1 m1 H1 F2 m2 H2 ∧ SOk K F2 m2 H2 S3 ∧ F2 D = none ∧ D ∉ m2 ∧ H2 D = some (.lst ws) ∧ Paired (RV K F2 m2) acc ws ∧ acc.length ≤ i ∧ lcL fg ft fe (wipeR ρ vs) (ds.drop i) S3 = some (ys, S2) ∧ xs = acc ++ ys,
          ⟨ds.length, rfl, Nat.zero_le _, F1, m1, S1, [], [], xs, st0, ok1', hFD, hmD, upd_same, .nil, Nat.le_refl _, q2, rfl⟩, ?_⟩
        rintro i n H2 ⟨rfl, hi, F2, m2, S3, acc, ws, ys, st2, ok2, hF2, hm2, hH2, hacc, hlen, e2, exs⟩
        obtain ⟨g1, g2, g3⟩ := it i F2 m2 H2 S3 st2.ex ok2
        have st12 := st2
        by_cases hlt : i < ds.length
        · refine .inr ⟨g1 hlt, fun H5 => ∃ F5 m5 S5 acc' ws' ys', Stp F1 m1 H1 F5 m5 H5 ∧ SOk K F5 m5 H5 S5 ∧ F5 D = none ∧ D ∉ m5 ∧ H5 D = some (.lst ws') ∧ Paired (RV K F5 m5) acc' ws' ∧ acc'.length ≤ i + 1 ∧ lcL fg ft fe (wipeR ρ vs) (ds.drop (i + 1)) S5 = some (ys', S2) ∧ xs = acc' ++ ys',
            fun H5 h => ⟨ds.length - (i + 1), by omega, rfl, hlt, h⟩, fun x H3 hy => ?_⟩
          obtain ⟨d, F3, hd, st3, ok3, r3, hkeep⟩ := g3 x H3 hlt hy
          rw [drop_get hd, lcL] at e2
          have hH3 := hkeep D _ hH2
          -- what a step says of D
          have onD : ∀ {Fa ma Ha Fb mb Hb}, Stp Fa ma Ha Fb mb Hb → Fa D = none → D ∉ ma → Ha D ≠ none → Fb D = none ∧ D ∉ mb := fun {Fa ma Ha Fb mb Hb} s h1 h2 h3 => by
            constructor
            · cases q9 : Fb D with
              | none => rfl
              | some o =>
                rcases s.newF D h1 (by rw [q9]; simp) with r | r
                · exact absurd r h2
                · exact absurd r h3
            · intro hmem
              rcases s.new D hmem with r | r
              · exact h2 r
              · exact h3 r
          obtain ⟨hF3, hm3⟩ := onD st3 hF2 hm2 (by rw [hH2]; simp)
          split at e2
          · rename_i ρ4 S4 q4
            have ro3 : ROk K F3 m2 (wipeR ρ vs) (wipe σ vs) := ro_wipe (ro_mono (st1.trans (st12.trans st3)) ro) vs
            refine hg.snd ok3 ro3 (a := .d d) r3 q4 _ fun eS σ4 ro4 ew => ?_
            subst eS
            refine ⟨by rw [ew, wipe_wipe], ?_⟩
            split at e2
            · rename_i S5 q5
              refine sndT ok3 ro4 q5 _ fun F5 m5 H5 st5 ok5 => ?_
              rw [if_pos rfl]
              obtain ⟨hF5, hm5⟩ := onD st5 hF3 hm3 (by rw [hH3]; simp)
              have hH5 := st5.fr D _ hH3 hm3
              split at e2
              · rename_i y S6 q6
                refine sndE ok5 (ro_mono st5 ro4) q6 _ fun w F6 m6 H6 st6 ok6 r6 => ?_
                obtain ⟨hF6, hm6⟩ := onD st6 hF5 hm5 (by rw [hH5]; simp)
                have hH6 := st6.fr D _ hH5 hm5
                have sall := ((st2.trans st3).trans st5).trans st6
                refine ⟨ws, hH6, by rw [← pr_len hacc]; omega, ?_⟩
                split at e2
                · rename_i zs S7 q7
                  cases e2
                  refine ⟨F6, m6, S6, acc ++ [y], ws ++ [w], zs, ⟨sall.ex, sall.pre, sall.new, sall.newF, fun b o hb hm => ?_⟩, al_O ok6 hF6 hm6, hF6, hm6, upd_same, pr_append (rvs_mono ((st3.trans st5).trans st6) hacc) (.cons r6 .nil), by simp; omega, q7, by rw [exs, List.append_assoc]; rfl⟩
                  rw [upd_ne (ne_of_none hb hD)]
                  exact sall.fr b o hb hm
                · cases e2
              · cases e2
            · rename_i S5 q5
              refine sndT ok3 ro4 q5 _ fun F5 m5 H5 st5 ok5 => ?_
              rw [if_neg Bool.false_ne_true]
              obtain ⟨hF5, hm5⟩ := onD st5 hF3 hm3 (by rw [hH3]; simp)
              have hH5 := st5.fr D _ hH3 hm3
              exact ⟨F5, m5, S5, acc, ws, ys, (st2.trans st3).trans st5, ok5, hF5, hm5, hH5, rvs_mono (st3.trans st5) hacc, by omega, e2, exs⟩
            · cases e2
          · cases e2
        · have ei : i = ds.length := by omega
          subst ei
          rw [List.drop_length, lcL] at e2
          cases e2
          rw [List.append_nil] at exs
          subst exs
          refine .inl ⟨g2 (Nat.le_refl _), ?_⟩
          cases md with
          | N =>
            cases e
            obtain ⟨o1, o2⟩ := al_Q ok2 hH2 hF2 hm2 hacc
            refine k _ F2 (m2 ++ [D]) H2 ⟨st1.ex.trans st12.ex, ?_, fun b hb => ?_, fun b h1 h2 => (st1.trans st12).newF b h1 h2, (st1.trans st12).fr⟩ o1 o2
            · obtain ⟨t1, e1⟩ := (st1.trans st12).pre
              exact ⟨t1 ++ [D], by rw [e1, List.append_assoc]⟩
            · rcases List.mem_append.mp hb with r | r
              · exact (st1.trans st12).new b r
              · rw [List.mem_singleton.mp r]
                right
                cases q9 : H D with
                | none => rfl
                | some o =>
                  by_cases hmm : D ∈ m
                  · obtain ⟨t1, e1⟩ := st1.pre
                    exact absurd (by rw [e1]; exact List.mem_append_left _ hmm) hmD
                  · rw [st1.fr D o q9 hmm] at hD; cases hD
          | D =>
            have e' : (unD xs).map (fun ds => (Val.d (.list ds), _)) = some (res, S') := e
            cases q9 : unD xs with
            | none => rw [q9] at e'; cases e'
            | some zs =>
              rw [q9] at e'; cases e'
              have hp := unD_ok q9 hacc
              have o1 := al_P ok2 hH2 hF2 hm2
              have ex2 : Same F2 (upd F2 D (.lst ws)) := fun b o hb => by rw [upd_ne (ne_of_none hb hF2)]; exact hb
              have st13 := st1.trans st12
              refine k _ (upd F2 D (.lst ws)) m2 H2 ⟨st13.ex.trans ex2, st13.pre, st13.new, fun b h1 h2 => ?_, st13.fr⟩ o1 (rv_list.mpr ⟨D, ws, rfl, upd_same, pr_mono (fun x v => rp_mono ex2 x v) hp⟩)
              by_cases hbD : b = D
              · subst hbD
                right
                cases q8 : H b with
                | none => rfl
                | some o =>
                  by_cases hmm : b ∈ m
                  · obtain ⟨t1, e1⟩ := st1.pre
                    exact absurd (by rw [e1]; exact List.mem_append_left _ hmm) hmD
                  · rw [st1.fr b o q8 hmm] at hD; cases hD
              · rw [upd_ne hbD] at h2
                exact st13.newF b h1 h2
      · cases e
    · cases e
  · cases e
end
end QL

namespace QL
open PySem PySem.Spec PyProof.Rows L2
section
variable {X : Cx} {K : PySem.W.Frag} {a b c e elt tg iter : Expr} {es ifs : List Expr} {pos : Pos} {f g h : Tf} {fa fb fc fe : Ef} {fs : Af} {st : Stmt} {rest : List Stmt} {u v : Sf}
/-! ### comprehensions, said -/
def tgN : List Nat → TGs
  | [] => gNil
  | i :: r => gCons (gName i) (tgN r)
def gsN : List Nat → Gs
  | [] => gsNil
  | i :: r => gsCons (gN i) (gsN r)
theorem gsN_ok {vs : List Nat} : ∀ (is : List Nat), (∀ i ∈ is, i ∈ vs) → ∀ ⦃F m H S ρ σ as ws ρ' S'⦄, SOk K F m H S → ROk K F m ρ σ → Paired (RV K F m) as ws → gsN is as ρ S = some (ρ', S') → ∀ Q : L2.St → Hp → Prop, (S' = S → ∀ σ', ROk K F m ρ' σ' → wipe σ' vs = wipe σ vs → Q σ' H) → tgN is ws σ H Q
  | [], _, F, m, H, S, ρ, σ, as, ws, ρ', S', ok, ro, ra, e, Q, k => by
    cases ra with
    | nil => cases e; exact ⟨rfl, k rfl σ ro rfl⟩
    | cons _ _ => cases e
  | i :: is, hi, F, m, H, S, ρ, σ, as, ws, ρ', S', ok, ro, ra, e, Q, k => by
    cases ra with
    | nil => cases e
    | cons r t =>
      refine ⟨_, _, rfl, ?_⟩
      refine gsN_ok is (fun j hj => hi j (List.mem_cons_of_mem _ hj)) ok (ro.set r i) t e Q fun eS σ' ro' ew => k eS σ' ro' ?_
      rw [ew, wipe_set_mem σ (hi i (List.mem_cons_self ..))]
theorem lct_tup {vs : List Nat} (n : Nat) (is : List Nat) (hi : ∀ i ∈ is, i ∈ vs := by decide) : LcT K vs (gTup K n (tgN is)) (gTu n (gsN is)) := .tup (gsN_ok is hi)
/-- ((a, b), c) -/
theorem lct_tup21 {vs : List Nat} (n n2 : Nat) (is js : List Nat) (hi : ∀ i ∈ is, i ∈ vs := by decide) (hj : ∀ i ∈ js, i ∈ vs := by decide) : LcT K vs (gTup K n (gCons (gTup K n2 (tgN is)) (tgN js))) (gTu n (gsCons (gTu n2 (gsN is)) (gsN js))) :=
  .tup fun F m H S ρ σ as ws ρ' S' ok ro ra e Q k => by
    cases ra with
    | nil => cases e
    | cons r t =>
      simp only [gsCons] at e
      split at e
      · rename_i ρ1 S1 q
        refine ⟨_, _, rfl, ?_⟩
        refine (lct_tup (K := K) n2 is hi).snd ok ro r q _ fun eS σ1 ro1 ew => ?_
        subst eS
        exact gsN_ok js hj ok ro1 t e Q fun eS σ' ro' ew' => k eS σ' ro' (ew'.trans ew)
      · cases e
theorem ee_lc (md : Md) (own : List (Str × Nat)) {scope : Scope} {fi : If} {tG' : TG} {fg : Gf} {ft : Tf} (hN : X.N.Nodup) (hi : EI X tg iter fi) (ok : BlkOk X.N X.env.scope scope own)
    (hl : LcT X.K (own.map (·.2)) tG' fg) (hg : ∀ (s : Shared) (H : Hp) (C : Addr) (cl : List (Str × Addr)) (fp : List Addr), PG (X.blk s H scope (compEnvC scope cl C X.env) fp) tg tG')
    (ht : ∀ (s : Shared) (H : Hp) (C : Addr) (cl : List (Str × Addr)) (fp : List Addr), ETs (X.blk s H scope (compEnvC scope cl C X.env) fp) ifs ft)
    (he : ∀ (s : Shared) (H : Hp) (C : Addr) (cl : List (Str × Addr)) (fp : List Addr), EE (X.blk s H scope (compEnvC scope cl C X.env) fp) elt fe) (hc : X.calm = true := by rfl) (hs : ∀ x, foldedSetIterable iter X.env x = pure x := by intro _; rfl) :
    EE X (.ListComp elt [⟨tg, iter, ifs, 0⟩] scope pos) (eLc md fi fg ft fe (own.map (·.2))) := ee_of (pe_lc (tt := tT X.K ft) (te := tE X.K fe) hc hN hi ok hg (fun s H C cl fp => ht s H C cl fp) (fun s H C cl fp => he s H C cl fp) hs) (snd_lc hl)
theorem ss_setLc (md : Md) (i : Nat) (own : List (Str × Nat)) {y : Str} {py spos : Pos} {scope : Scope} {fi : If} {tG' : TG} {fg : Gf} {ft : Tf} (hN : X.N.Nodup) (hi : EI X tg iter fi) (ok : BlkOk X.N X.env.scope scope own)
    (hl : LcT X.K (own.map (·.2)) tG' fg) (hg : ∀ (s : Shared) (H : Hp) (C : Addr) (cl : List (Str × Addr)) (fp : List Addr), PG (X.blk s H scope (compEnvC scope cl C X.env) fp) tg tG')
    (ht : ∀ (s : Shared) (H : Hp) (C : Addr) (cl : List (Str × Addr)) (fp : List Addr), ETs (X.blk s H scope (compEnvC scope cl C X.env) fp) ifs ft)
    (he : ∀ (s : Shared) (H : Hp) (C : Addr) (cl : List (Str × Addr)) (fp : List Addr), EE (X.blk s H scope (compEnvC scope cl C X.env) fp) elt fe) (hc : X.calm = true := by rfl) (hy : X.N[i]? = some y := by rfl) (hyl : X.env.scope.names.lookup y = some .local := by rfl)
    (hsw : swapsWith (.ListComp elt [⟨tg, iter, ifs, 0⟩] scope pos) (some (.Name y py)) spos.line X.env = pure true := by exact sw_true rfl rfl rfl (by decide +kernel)) (hs : ∀ x, foldedSetIterable iter X.env x = pure x := by intro _; rfl) :
    SS X (.Assign [.Name y py] (.ListComp elt [⟨tg, iter, ifs, 0⟩] scope pos) spos) (sAsg (eLc md fi fg ft fe (own.map (·.2))) (gN i)) := ss_of (ps_setLc (tt := tT X.K ft) (te := tE X.K fe) hc hN hy hyl hsw hi ok hg (fun s H C cl fp => ht s H C cl fp) (fun s H C cl fp => he s H C cl fp) hs) (snd_asg (snd_lc hl) (sndN i))

/-! ### str(..) of lists and tuples -/
def isSeq : PyData → Bool
  | .list _ => true
  | .tuple _ => true
  | _ => false
def gStrD : List Val → Sto → Option (Val × Sto) := fun as S => match as with
  | [a] => match look S a with
    | some d => if isSeq d = true ∧ d.showable = true ∧ d.hasDict = false ∧ d.depth ≤ 60 ∧ d.shown.length ≤ sizeLine then some (.d (.str d.shown), S) else none
    | none => none
  | _ => none
theorem call_strD {k : Nat} (hr : RoomG k X.A) : CallR X (.type "str") (fun xs H Q => ∃ x d, xs = [x] ∧ Rp X.K H d x ∧ isSeq d = true ∧ d.showable = true ∧ d.hasDict = false ∧ d.depth ≤ 60 ∧ d.shown.length ≤ sizeLine ∧ Q (.str d.shown) H) := by
  intro pins s σ H xs us Q I rs h
  obtain ⟨x, d, rfl, hd, h0, h1, h2, h3, h4, q⟩ := h
  obtain ⟨u, rfl, ru⟩ := vals1 rs
  obtain ⟨as, r1⟩ := Dp.reads I d x u (rp_dp d x hd) ru
  have hu : X.A.units + (d.depth + 3) < cLine := by have := hr.room.un; omega
  have href : ∃ p, x = .ref p := by
    cases d with
    | list ds => obtain ⟨p, _, e, _⟩ := rp_list.mp hd; exact ⟨p, e⟩
    | tuple ds => obtain ⟨p, _, e, _⟩ := rp_tuple.mp hd; exact ⟨p, e⟩
    | _ => cases h0
  obtain ⟨p, rfl⟩ := href
  cases ru
  exact PySem.str_of_reads r1 h1 (PyData.noDict_hsm h2) hr.gd hu (fun _ _ z => z) (fun h' w tk hk => ⟨.str d.shown, H, I.kept hk, ⟨w, rfl⟩, q⟩) h4
theorem cg_strD {k : Nat} (hr : RoomG k X.A) : CallG X (.type "str") gStrD := ⟨_, call_strD hr, fun F m H S as vs res S' ok rs e Q k => by
  unfold gStrD at e
  split at e
  · rename_i a
    split at e
    · rename_i d hd
      split at e
      · rename_i hz
        cases e
        cases rs with
        | cons r1 t =>
          cases t
          exact ⟨_, d, rfl, look_ok ok hd r1, hz.1, hz.2.1, hz.2.2.1, hz.2.2.2.1, hz.2.2.2.2, k.here ok (rv_str.mpr rfl)⟩
      · cases e
    · cases e
  · cases e⟩
def gStrA := altC gStr gStrD
theorem cg_strA {k : Nat} (hr : RoomG k X.A) : CallG X (.type "str") gStrA := cg_str.or (cg_strD hr)
end

/-! ### a def -/
def ClV (n : Nat) : Val → Prop
  | .c k => k < n
  | _ => True
def ClC (n : Nat) : Cell → Prop
  | .lst xs => ∀ x ∈ xs, ClV n x
  | .frz _ => True
/-- what a def leaves: old cells, or cells that know no other ones -/
structure Keep (S S' : Sto) (r : Val) : Prop where
  len : S.length ≤ S'.length
  old : ∀ (k : Nat) (c : Cell), S'[k]? = some c → S[k]? = some c ∨ ClC S'.length c
  res : ClV S'.length r
theorem Keep.same (S : Sto) (x : PyData) : Keep S S (.d x) := ⟨Nat.le_refl _, fun _ _ h => .inl h, trivial⟩
theorem Keep.set (S : Sto) (k : Nat) (ds : List PyData) (x : PyData) : Keep S (S.set k (.lst (ds.map .d))) (.d x) := by
  refine ⟨by simp, fun j c h => ?_, trivial⟩
  by_cases e : k = j
  · subst e
    right
    rw [List.getElem?_set] at h
    simp only [if_true] at h
    split at h
    · cases h
      intro x hx
      obtain ⟨d, _, rfl⟩ := List.mem_map.mp hx
      trivial
    · cases h
  · rw [List.getElem?_set_ne e] at h
    exact .inl h
theorem pr_mem {α β : Type} {G G' : α → β → Prop} : ∀ {xs : List α} {ys : List β}, (∀ a b, a ∈ xs → G a b → G' a b) → Paired G xs ys → Paired G' xs ys
  | _, _, _, .nil => .nil
  | _, _, h, .cons r t => .cons (h _ _ (List.mem_cons_self ..) r) (pr_mem (fun a b ha => h a b (List.mem_cons_of_mem _ ha)) t)
theorem pr_in {α β : Type} {G : α → β → Prop} : ∀ {xs : List α} {ys : List β}, Paired G xs ys → ∀ a ∈ xs, ∃ b, G a b
  | _, _, .nil, _, h => by simp at h
  | _, _, .cons r t, a, h => by
    rcases List.mem_cons.mp h with q | q
    · subst q; exact ⟨_, r⟩
    · exact pr_in t a q
section
variable {K : PySem.W.Frag}
theorem rv_take {F : Hp} {m : List Addr} {n : Nat} {a : Val} {v : V} (h : RV K F m a v) (hc : ClV n a) : RV K F (m.take n) a v := by
  cases a with
  | d x => exact h
  | s ns => exact h
  | c k =>
    obtain ⟨p, h1, h2⟩ := h
    exact ⟨p, by rw [List.getElem?_take_of_lt (show k < n from hc)]; exact h1, h2⟩
theorem trunc {F F' H H' : Hp} {m m' : List Addr} {S S' T : Sto} {r : Val} (ok0 : SOk K F m H S) (st : Stp F m H F' m' H') (ok : SOk K F' m' H' (S' ++ T)) (kp : Keep S S' r) :
    ∃ m2, Stp F m H F' m2 H' ∧ SOk K F' m2 H' S' ∧ ∀ v, RV K F' m' r v → RV K F' m2 r v := by
  have hlen : S'.length ≤ m'.length := by rw [ok.len, List.length_append]; omega
  refine ⟨m'.take S'.length, ⟨st.ex, ?_, fun a ha => st.new a (List.mem_of_mem_take ha), st.newF, st.fr⟩, ⟨ok.ex, by rw [List.length_take]; omega, ok.nd.sublist (List.take_sublist _ _), fun a ha => ok.tr a (List.mem_of_mem_take ha), fun k a c h1 h2 => ?_⟩, fun v h => rv_take h kp.res⟩
  · obtain ⟨t, e⟩ := st.pre
    refine ⟨t.take (S'.length - m.length), ?_⟩
    have hm : m.length ≤ S'.length := by rw [ok0.len]; exact kp.len
    rw [e, List.take_append, List.take_of_length_le hm]
  · have hk : k < S'.length := (List.getElem?_eq_some_iff.mp h2).1
    rw [List.getElem?_take_of_lt hk] at h1
    have hc := ok.cell k a c h1 (by rw [List.getElem?_append_left hk]; exact h2)
    have hcl : ClC S'.length c := by
      rcases kp.old k c h2 with q | q
      · cases c with
        | frz x => trivial
        | lst xs =>
          intro x hx
          cases x with
          | d _ => trivial
          | s _ => trivial
          | c j =>
            have hkl : k < m.length := by rw [ok0.len]; exact (List.getElem?_eq_some_iff.mp q).1
            obtain ⟨_, ws, _, hp⟩ := ok0.cell k m[k] _ (List.getElem?_eq_getElem hkl) q
            obtain ⟨w, p, h3, _⟩ := pr_in hp _ hx
            have := (List.getElem?_eq_some_iff.mp h3).1
            rw [ok0.len] at this
            exact Nat.lt_of_lt_of_le this kp.len
      · exact q
    cases c with
    | frz x => exact hc
    | lst xs =>
      obtain ⟨h3, ws, h4, h5⟩ := hc
      exact ⟨h3, ws, h4, pr_mem (fun x w hx r => rv_take r (hcl x hx)) h5⟩
def initR (n : Nat) (as : List Val) : Rho := as.map some ++ List.replicate (n - as.length) none
theorem ro_init {F : Hp} {m : List Addr} {N : List Str} {as : List Val} {vs : List V} (h : Paired (RV K F m) as vs) : ROk K F m (initR N.length as) (L2.start N vs) := by
  have hl := pr_len h
  refine ⟨by unfold initR L2.start; simp [hl], fun i a e => ?_⟩
  unfold initR at e
  unfold L2.start
  by_cases hi : i < as.length
  · rw [List.getElem?_append_left (by simpa using hi), List.getElem?_map] at e
    cases q : as[i]? with
    | none => rw [q] at e; cases e
    | some y =>
      rw [q] at e; cases e
      obtain ⟨v, h1, h2⟩ := pr_get h q
      refine ⟨v, ?_, h2⟩
      rw [List.getElem?_append_left (by rw [List.length_map, ← hl]; exact hi), List.getElem?_map, h1]
      rfl
  · rw [List.getElem?_append_right (by simpa using Nat.le_of_not_lt hi), List.getElem?_replicate] at e
    split at e <;> cases e
variable {P : Program} {w : World} {mg : Str → Option Value} {base : Heap}
/-- what a body must do for φ -/
def Does (nN n : Nat) (fb : Sf) (φ : List Val → Sto → Option (Val × Sto)) : Prop := ∀ as S r S', as.length = n → φ as S = some (r, S') → ∃ fl ρ' T, fb (initR nN as) S = some (fl, ρ', S' ++ T) ∧ (fl = .rt r ∨ (fl = .nx ∧ r = .d .none)) ∧ Keep S S' r
theorem def_ok {k n : Nat} {x qual : Str} {st : Stmt} {f : Addr} {fd : FuncData} {N ps : List Str} {fb : Sf} {φ : List Val → Sto → Option (Val × Sto)} (F : Fun K x qual st f fd) (gm : mg x = some (.ref f)) (Sc : FnScope N ps (defScope st)) (hb : Binds K fd ps []) (hn : ps.length = n)
    (hbody : ∀ (cdv : Value) (A : Around) (outer : List PySem.Env) (s : Shared) (H : Hp), RoomG k (A.deeper (envOfC qual (defScope st) s.heap.objs.size f cdv)) → SSs ((cxOf CX0 P w K mg base N qual (defScope st) f cdv A outer s H E0).nox) (defBody st) fb)
    (hφ : Does N.length n fb φ) : DefOk P w K mg base (k + 1) x n φ := by
  refine ⟨f, fd, ps, hn, ?_, gm, F.kp, hb⟩
  obtain ⟨oc, od, kV, doc, pm, an, cdv, ct, osl, rfl, lk, hcd⟩ := F.ex
  intro A outer s H args us vs Q hr e0 hbd r hsp
  have hl : vs.length = ps.length := by rw [hn]; exact spOf_len vs H Q E0 hsp
  have KX : K.In s.heap := e0.mod.kin.keeps fun b o h => (e0.bs b o h).1
  have lim : s.heap.NoLimit := e0.mod.nolimit.keeps fun b o h => (e0.bs b o h).1
  have hkd : ∀ y ∈ ps.zip us, (defScope st).names.lookup y.1 = some .local ∨ ((defScope st).names.lookup y.1 = some .cell ∧ ((cellsFrom (s.heap.objs.size + 1) (defScope st).names []).lookup y.1).isSome = true) := by
    rintro ⟨y, z⟩ hy
    rcases Sc.par y (List.of_mem_zip hy).1 with q | q
    · exact .inl q
    · exact .inr ⟨q, PySem.W.cellsFrom_some _ _ _ (.inl q)⟩
  refine codeAny_call_function hr.room.depth (KX _ _ lk) rfl Sc.co Sc.gen rfl (PySem.W.codeRec_of KX hcd) (hbd _ _ _ _ ?_)
  refine wpAny_newFunctionEnv_cells Sc.kind hkd fun env he s1 xx => ?_
  subst he
  refine ⟨lim.keeps xx.toInCall.keep, codeAny_func ?_⟩
  have I0 := (inv_start (CX := CX0) (P := P) (E := E0) Sc hr.room.hd e0 hl r xx).wish fun _ _ => False
  have hB := hbody cdv A outer s H ⟨hr.room.deeper _, hr.gd⟩
  obtain ⟨F0, m0, as, S, rr, S', h1, ok, rv, ep, kk⟩ := hsp
  obtain ⟨fl, ρ', T, eb, hfl, kp⟩ := hφ as S rr S' h1 ep
  have hD : tS K fb { nx := fun _ H' => Q .non H', rt := Q } (L2.start N vs) H := by
    refine ⟨F0, m0, S, _, fl, ρ', S' ++ T, ok, ro_init rv, eb, ?_⟩
    rcases hfl with q | ⟨q, q2⟩
    · subst q
      intro v F' m' H' st' ok' r'
      obtain ⟨m2, s2, o2, t2⟩ := trunc ok st' ok' kp
      exact kk v F' m2 H' s2 o2 (t2 v r')
    · subst q q2
      intro σ' F' m' H' st' ok' ro'
      obtain ⟨m2, s2, o2, t2⟩ := trunc ok st' ok' kp
      exact kk .non F' m2 H' s2 o2 (rv_none.mpr rfl)
  refine wpAny_mono (hB.run [] s1 (L2.start N vs) H _ I0 hD) (fun fl' s' hs => ?_) fun _ _ z => False.elim z
  have fin : ∀ {σ' : L2.St} {H' : Hp} {v : V} {u : Value}, Inv ((cxOf CX0 P w K mg base N qual (defScope st) f cdv A outer s H E0).nox) [] σ' H' s' → RelV v u → Q v H' → CE outer P w H s Q u s' :=
    fun J rv q => ⟨_, _, J.os, J.bare, J.base, J.hok, rv, q⟩
  cases fl' with
  | ret u =>
    obtain ⟨v, σ', H', J, rv, q⟩ := hs
    exact fin J rv q
  | next =>
    obtain ⟨σ', H', J, q⟩ := hs
    exact fin (v := V.non) (u := Value.none) J rfl q
  | brk => obtain ⟨_, _, _, q⟩ := hs; exact q.elim
  | cont => obtain ⟨_, _, _, q⟩ := hs; exact q.elim
end
end QL

namespace QL
open PySem PySem.Spec PyProof.Rows L2
/-- the law's call at the heap behind the top -/
theorem call_q {P : Program} {w : World} {K : PySem.W.Frag} {mg mb : Str → Option Value} {k : Nat} {fa sa : Addr} {nm : Str} {φ : List Val → Sto → Option (Val × Sto)} {s1 : Shared} {us : List Value} {ns : List Int}
    (KX : K.In s1.heap) (hG : s1.heap.Ns mainGlobals mg) (hB : s1.heap.Ns builtinsNs mb) (hBB : ∀ x : Str, x ≠ "__name__" → mb x = bootBuiltins x) (hL : s1.heap.NoLimit) (hgen : s1.gens = #[])
    (hs : s1.heap.get? sa = some { cls := .type "list", data := .seq us.toArray }) (hi : IntsAre us ns) (hln : ns.length ≤ sizeLine) (hr : Room k callerA) (hfa : mg nm = some (.ref fa))
    (D : ∀ base : Heap, K.In base → base.Ns mainGlobals mg → DefOk P w K mg base k nm 1 φ) (hφ : ∃ S', φ [.s ns] [] = some (.d (.bool true), S')) :
    codeAny (model P w) callerA (.call (.ref fa) ⟨[.ref sa], []⟩) (fun r s' => r = .ok (.ret (.bool true)) ∧ OldK s1.heap s'.heap ∧ s'.os = s1.os ∧ AllBare s'.gens) s1 := by
  have rv := vals_ints hi
  -- H tracks the script at most
  have main : ∀ H : Hp, (∀ b, H b = none ∨ ∃ o xs, H b = some (.frz o (.lst xs))) → SqL K H sa (ns.map V.int) → HOk P w H s1.heap → (∀ b, H b ≠ none → b = sa ∧ K.lookup sa = none) →
      codeAny (model P w) callerA (.call (.ref fa) ⟨[.ref sa], []⟩) (fun r s' => r = .ok (.ret (.bool true)) ∧ OldK s1.heap s'.heap ∧ s'.os = s1.os ∧ AllBare s'.gens) s1 := by
    intro H hO hS hok hA
    have untr : ∀ {b : Addr}, b ≠ sa ∨ K.lookup sa ≠ none → H b = none := fun {b} hb => by
      cases q : H b with
      | none => rfl
      | some u =>
        obtain ⟨z1, z2⟩ := hA b (by rw [q]; simp)
        rcases hb with z | z
        · exact absurd z1 z
        · exact absurd z2 z
    have hK : K.In (hidT s1.heap H) := fun b o e => by
      refine hidT_get (KX b o e) ?_
      by_cases hb : b = sa
      · subst hb
        exact untr (.inr (by rw [e]; simp))
      · exact untr (.inl hb)
    have ns' : ∀ {b : Addr} {m : Str → Option Value}, s1.heap.Ns b m → (hidT s1.heap H).Ns b m := by
      rintro b m ⟨o, es, ep, e, d, r⟩
      refine ⟨o, es, ep, hidT_get e (untr (.inl fun z => ?_)), d, r⟩
      subst z
      rw [hs] at e
      cases e
      have d' : Data.seq us.toArray _ = Data.dict es ep := d
      cases d'
    have hM : Mod K mg (hidT s1.heap H) := by
      obtain ⟨mc, h1, h2⟩ := hL
      exact ⟨hK, ns' hG, ⟨mb, ns' hB, hBB⟩, ⟨mc, ns' h1, h2⟩⟩
    obtain ⟨f, fd, ps, hn, F, hm, hkp, hb⟩ := D _ hK (ns' hG)
    have ef : f = fa := by
      have := hm.symm.trans hfa
      injection this with z
      injection z
    subst ef
    have e0 : Env0 P w K mg (hidT s1.heap H) callerA [] s1 H := by
      refine ⟨rfl, hM, fun b o e => of_hidT e, Nat.le_of_eq (hidT_size _ _), trivial, fun b z => ?_, hok, .of_eq hgen⟩
      exact absurd (show b ∈ ([] : List Addr) from z) (by simp)
    have hbd := hb s1 [.ref sa] KX (by rw [hn]; rfl)
    rw [List.append_nil] at hbd
    obtain ⟨S', hφ⟩ := hφ
    have hsp : spOf K 1 φ [.ref sa] H (fun v _ => v = .bl true) E0 := by
      refine ⟨H, [], [.s ns], [], _, S', rfl, ⟨Same.refl _, rfl, List.nodup_nil, fun a z => by simp at z, fun k a c z => by simp at z⟩, .cons ⟨sa, rfl, hS⟩ .nil, hφ, fun v F' m' H' _ _ r => rv_bool.mp r⟩
    refine codeAny_mono (F callerA [] s1 H ⟨[.ref sa], []⟩ [.ref sa] [.ref sa] _ ⟨hr, rfl⟩ e0 hbd (.cons rfl .nil) hsp) fun r s' hq => ?_
    cases r with
    | error e => exact hq.elim
    | ok fl =>
      cases fl with
      | next => exact hq.elim
      | brk => exact hq.elim
      | cont => exact hq.elim
      | ret u =>
        obtain ⟨v, H', hos, hbare, un, hok', r', q⟩ := hq
        have q : v = .bl true := q
        subst q
        have r' : u = Value.bool true := r'
        subst r'
        refine ⟨rfl, OldK.of_keep fun b o e => ?_, hos, hbare⟩
        rcases hO b with z | ⟨ob, xs, z⟩
        · exact un.keep b o e z (fun z => absurd (show b ∈ ([] : List Addr) from z) (by simp)) (by simp)
        · obtain ⟨q1, _⟩ := hok b _ z
          obtain ⟨q2, _⟩ := hok' b _ (un.frzs b ob _ z)
          rw [q1] at e
          cases e
          exact q2
  have lenV := hi.length
  cases hk : K.lookup sa with
  | some o =>
    have e := KX sa o hk
    rw [hs] at e
    cases e
    exact main (fun _ => none) (fun _ => .inl rfl) (.inr ⟨_, us.toArray, _, hk, rfl, rfl, rfl, by rw [List.size_toArray, lenV]; exact hln, by simpa using rv⟩) (fun b u z => nomatch z) (fun b z => absurd rfl z)
  | none =>
    have at_sa : ∀ b u, (if b = sa then some (HO.frz { cls := .type "list", data := .seq us.toArray } (.lst (ns.map V.int))) else none) = some u → b = sa ∧ u = HO.frz { cls := .type "list", data := .seq us.toArray } (.lst (ns.map V.int)) := fun b u z => by
      by_cases hb : b = sa
      · rw [if_pos hb] at z; cases z; exact ⟨hb, rfl⟩
      · rw [if_neg hb] at z; cases z
    refine main (fun b => if b = sa then some (.frz { cls := .type "list", data := .seq us.toArray } (.lst (ns.map V.int))) else none) (fun b => ?_) (.inl (.inr ⟨_, if_pos rfl⟩)) (fun b u z => ?_) (fun b z => ?_)
    · by_cases hb : b = sa
      · exact .inr ⟨_, _, if_pos hb⟩
      · exact .inl (if_neg hb)
    · obtain ⟨rfl, rfl⟩ := at_sa b u z
      exact ⟨hs, by rw [List.length_map]; exact hln, us, _, rv, hs⟩
    · by_cases hb : b = sa
      · exact ⟨hb, hk⟩
      · exact absurd (if_neg hb) z
theorem walk_q {l : PySem.W.OpenLaw} {k : Nat} {q : Program} {loose : List Str} {XP : (Str → Option Value) → Heap → Prop} {YP : World → Heap → Prop} {d : DefRec} {K : Params → PySem.W.Frag} {φ : List Val → Sto → Option (Val × Sto)}
    (hn : l.most = some 63) (hdf : d.params.defaults = []) (hr : Room k callerA) (hY : ∀ (w : World) (h : Heap), YP w h → (K w.params).In h)
    (D : ∀ (w : World) (mg : Str → Option Value) (h : Heap), (K w.params).In h → h.Ns mainGlobals mg → ∀ base : Heap, (K w.params).In base → base.Ns mainGlobals mg → DefOk l.prog w (K w.params) mg base k d.name 1 φ)
    (hφ : ∀ ns : List Int, ns.length ≤ 63 → ∃ S', φ [.s ns] [] = some (.d (.bool true), S')) : PySem.W.WalkO q loose XP YP l.row.toRowW d [] (fun f vs => PySem.call f vs) := by
  refine Att.attach_call hn hdf fun w s0 s1 mg mb fa o pm cd doc a vs ns G Y ho hd hcd hmg hobj hints hlen hg => ?_
  have KX := hY w _ Y
  exact call_q KX G.T.g G.T.b G.T.builtins G.T.nolimit hg hobj hints (Nat.le_trans hlen (by rw [sizeLine_eq]; decide)) hr hmg (fun base => D w mg _ KX G.T.g base) (hφ ns hlen)
end QL

namespace QL
open PySem PySem.Spec PyProof.Rows L2
/-- turns that a while may take -/
def fuelW : Nat := 1000000
/-! ### what a body does, as a function: its value, and the store without what it made (but j new cells) -/
section
open Classical
noncomputable def φof (nN j : Nat) (fb : Sf) : List Val → Sto → Option (Val × Sto) := fun as S => match fb (initR nN as) S with
  | some (.rt r, _, S1) => if Keep S (S1.take (S.length + j)) r then some (r, S1.take (S.length + j)) else none
  | some (.nx, _, S1) => if Keep S (S1.take (S.length + j)) (.d .none) then some (.d .none, S1.take (S.length + j)) else none
  | _ => none
theorem does_of (nN n j : Nat) (fb : Sf) : Does nN n fb (φof nN j fb) := fun as S r S' _ h => by
  unfold φof at h
  split at h
  · rename_i r1 ρ1 S1 q
    split at h
    · rename_i hk
      cases h
      exact ⟨_, ρ1, S1.drop (S.length + j), by rw [List.take_append_drop]; exact q, .inl rfl, hk⟩
    · cases h
  · rename_i ρ1 S1 q
    split at h
    · rename_i hk
      cases h
      exact ⟨_, ρ1, S1.drop (S.length + j), by rw [List.take_append_drop]; exact q, .inr ⟨rfl, rfl⟩, hk⟩
    · cases h
  · cases h
theorem φof_eq {nN j : Nat} {fb : Sf} {as : List Val} {S S' T : Sto} {r : Val} {ρ' : Rho} (h : fb (initR nN as) S = some (.rt r, ρ', S' ++ T)) (hl : S'.length = S.length + j) (hk : Keep S S' r) : φof nN j fb as S = some (r, S') := by
  have e : (S' ++ T).take (S.length + j) = S' := by rw [← hl, List.take_left']; rfl
  unfold φof
  simp only [h, e, if_pos hk]
theorem φof_nx {nN j : Nat} {fb : Sf} {as : List Val} {S S' T : Sto} {ρ' : Rho} (h : fb (initR nN as) S = some (.nx, ρ', S' ++ T)) (hl : S'.length = S.length + j) (hk : Keep S S' (.d .none)) : φof nN j fb as S = some (.d .none, S') := by
  have e : (S' ++ T).take (S.length + j) = S' := by rw [← hl, List.take_left']; rfl
  unfold φof
  simp only [h, e, if_pos hk]
end
/-- a def that calls itself, to a depth -/
noncomputable def recφ (nN j : Nat) (fb : (List Val → Sto → Option (Val × Sto)) → Sf) : Nat → List Val → Sto → Option (Val × Sto)
  | 0 => fun _ _ => none
  | n + 1 => φof nN j (fb (recφ nN j fb n))
theorem def_none {K : PySem.W.Frag} {P : Program} {w : World} {mg : Str → Option Value} {base : Heap} {k n : Nat} {x qual : Str} {st : Stmt} {f : Addr} {fd : FuncData} {ps : List Str} (F : Fun K x qual st f fd) (gm : mg x = some (.ref f)) (hb : Binds K fd ps []) (hn : ps.length = n) :
    DefOk P w K mg base k x n fun _ _ => none :=
  ⟨f, fd, ps, hn, (fun A outer s H args us vs Q hr e0 hbd r hsp => (by
    obtain ⟨F0, m0, as, S, rr, S', h1, ok, rv, ep, kk⟩ := hsp
    cases ep) : FnG P w K mg base k f fd ps n fun _ _ => none), gm, F.kp, hb⟩
end QL

namespace QL
open PySem PySem.Spec PyProof.Rows L2
section
variable {X : Cx} {K : PySem.W.Frag} {a b c e tg : Expr} {es : List Expr} {pos p p2 pos2 : Pos} {fa fb : Ef} {fs : Af}
def gIsB (neg : Bool) : Val → Val → Sto → Option (Val × Sto)
  | .d (.bool a), .d (.bool b), S => some (.d (.bool (xor neg (decide (a = b)))), S)
  | _, _, _ => none
theorem og_isB : OpG X (compareOp .Is) (gIsB false) := ⟨_, op_isBl, fun F m H S a b v u res S' ok ra rb e Q k => by
  unfold gIsB at e
  split at e
  · cases e
    exact ⟨_, _, rv_bool.mp ra, rv_bool.mp rb, k.here ok (rv_bool.mpr (by rw [Bool.false_xor]))⟩
  · cases e⟩
theorem og_isnotB : OpG X (compareOp .IsNot) (gIsB true) := ⟨_, op_notBl, fun F m H S a b v u res S' ok ra rb e Q k => by
  unfold gIsB at e
  split at e
  · cases e
    exact ⟨_, _, rv_bool.mp ra, rv_bool.mp rb, k.here ok (rv_bool.mpr (by rw [Bool.true_xor]))⟩
  · cases e⟩
/-! ### methods without arguments -/
def eMt0 (g : Val → List Val → Sto → Option (Val × Sto)) (fo : Ef) : Ef := fun ρ S => bnd (fo ρ S) fun o S1 => if (viewL S1 o).isSome = true then g o [] S1 else none
theorem ee_mt0 {x : Str} {apos : Pos} {id : String} {r : V → List V → Hp → VK → Prop} {g : Val → List Val → Sto → Option (Val × Sto)} (slot : Slot "list" x id) (hty : typeOf (.builtin id) = pure (.type "method_descriptor")) (hm : MtR X id r) (hg : RM X.K r g) (ho : EE X a fa)
    (hbase : attributeBase a x X.env (eval a X.env) = eval a X.env := by rfl) (hline : (apos.endLine == pos.line) = true := by rfl) : EE X (.Call (.Attribute a x apos) [] [] pos) (eMt0 g fa) :=
  ee_of (pe_bm0 PySem.F.plainAttrs_list slot hty hm ho hbase hline) fun F m H S ρ σ res S' ok ro e Q k => by
    obtain ⟨o, S1, e1, e⟩ := bnd_inv e
    split at e
    · rename_i hv
      refine sndE ok ro e1 _ fun v F1 m1 H1 st1 ok1 r1 => ?_
      obtain ⟨xs, hv⟩ := Option.isSome_iff_exists.mp hv
      obtain ⟨p, ws, rfl, q1, q2⟩ := viewL_ok ok1 hv r1
      exact ⟨.inl ⟨rfl, ws, q1⟩, hg ok1 r1 .nil e Q (k.on st1)⟩
    · cases e
def gPop : Val → List Val → Sto → Option (Val × Sto)
  | .c k, [], S => match S[k]? with
    | some (.lst xs) => match xs[xs.length - 1]? with
      | some y => some (y, S.set k (.lst xs.dropLast))
      | none => none
    | _ => none
  | _, _, _ => none
theorem rm_pop : RM K rPop gPop := fun F m H S a as v vs res S' ok ra rs e Q k => by
  unfold gPop at e
  split at e
  · rename_i kk
    split at e
    · rename_i xs h1
      split at e
      · rename_i y hy
        cases e
        obtain ⟨p, hm, rfl⟩ := ra
        obtain ⟨hF, ws, h3, h4⟩ := ok.cell _ _ _ hm h1
        cases rs
        obtain ⟨u, hu, ru⟩ := pr_get h4 hy
        obtain ⟨ok2, st2⟩ := al_M ok hm h1 (pr_dropLast h4)
        exact ⟨p, ws, u, rfl, rfl, h3, by rw [← pr_len h4]; exact hu, k _ _ _ _ st2 ok2 ru⟩
      · cases e
    · cases e
  · cases e
def gReverse : Val → List Val → Sto → Option (Val × Sto)
  | .c k, [], S => match S[k]? with
    | some (.lst xs) => some (.d .none, S.set k (.lst xs.reverse))
    | _ => none
  | _, _, _ => none
theorem rm_reverse : RM K rReverse gReverse := fun F m H S a as v vs res S' ok ra rs e Q k => by
  unfold gReverse at e
  split at e
  · rename_i kk
    split at e
    · rename_i xs h1
      cases e
      obtain ⟨p, hm, rfl⟩ := ra
      obtain ⟨hF, ws, h3, h4⟩ := ok.cell _ _ _ hm h1
      cases rs
      obtain ⟨ok2, st2⟩ := al_M ok hm h1 (pr_reverse h4)
      exact ⟨p, ws, rfl, rfl, h3, k _ _ _ _ st2 ok2 (rv_none.mpr rfl)⟩
    · cases e
  · cases e
def gClear : Val → List Val → Sto → Option (Val × Sto)
  | .c k, [], S => match S[k]? with
    | some (.lst xs) => some (.d .none, S.set k (.lst []))
    | _ => none
  | _, _, _ => none
theorem rm_clear : RM K rClear gClear := fun F m H S a as v vs res S' ok ra rs e Q k => by
  unfold gClear at e
  split at e
  · rename_i kk
    split at e
    · rename_i xs h1
      cases e
      obtain ⟨p, hm, rfl⟩ := ra
      obtain ⟨hF, ws, h3, h4⟩ := ok.cell _ _ _ hm h1
      cases rs
      obtain ⟨ok2, st2⟩ := al_M (ys := []) (vs := []) ok hm h1 .nil
      exact ⟨p, ws, rfl, rfl, h3, k _ _ _ _ st2 ok2 (rv_none.mpr rfl)⟩
    · cases e
  · cases e
section
variable {apos : Pos}
theorem ee_pop (ho : EE X a fa) (hbase : attributeBase a "pop" X.env (eval a X.env) = eval a X.env := by rfl) (hline : (apos.endLine == pos.line) = true := by rfl) : EE X (.Call (.Attribute a "pop" apos) [] [] pos) (eMt0 gPop fa) := ee_mt0 PySem.F.slot_list_pop PySem.F.type_list_pop mt_pop rm_pop ho hbase hline
theorem ee_reverse (ho : EE X a fa) (hbase : attributeBase a "reverse" X.env (eval a X.env) = eval a X.env := by rfl) (hline : (apos.endLine == pos.line) = true := by rfl) : EE X (.Call (.Attribute a "reverse" apos) [] [] pos) (eMt0 gReverse fa) := ee_mt0 PySem.F.slot_list_reverse PySem.F.type_list_reverse mt_reverse rm_reverse ho hbase hline
theorem ee_clear (ho : EE X a fa) (hbase : attributeBase a "clear" X.env (eval a X.env) = eval a X.env := by rfl) (hline : (apos.endLine == pos.line) = true := by rfl) : EE X (.Call (.Attribute a "clear" apos) [] [] pos) (eMt0 gClear fa) := ee_mt0 PySem.F.slot_list_clear PySem.F.type_list_clear mt_clear rm_clear ho hbase hline
end
/-! ### extend, index, remove -/
def gExtend : Val → List Val → Sto → Option (Val × Sto)
  | .c k, [a], S => match S[k]?, viewS S a with
    | some (.lst xs), some zs => if xs.length + zs.length ≤ sizeLine then some (.d .none, S.set k (.lst (xs ++ zs))) else none
    | _, _ => none
  | _, _, _ => none
theorem rm_extend : RM K rExtend gExtend := fun F m H S a as v vs res S' ok ra rs e Q k => by
  unfold gExtend at e
  split at e
  · rename_i kk a
    split at e
    · rename_i xs zs h1 h2
      split at e
      · rename_i hz
        cases e
        obtain ⟨p, hm, rfl⟩ := ra
        obtain ⟨hF, ws, h3, h4⟩ := ok.cell _ _ _ hm h1
        cases rs with
        | cons r1 t =>
          cases t
          obtain ⟨b, us, rfl, h5, h6⟩ := viewS_ok ok h2 r1
          obtain ⟨ok2, st2⟩ := al_M ok hm h1 (pr_append h4 h6)
          exact ⟨p, b, ws, us, rfl, rfl, h3, h5, by rw [← pr_len h4, ← pr_len h6]; exact hz, k _ _ _ _ st2 ok2 (rv_none.mpr rfl)⟩
      · cases e
    · cases e
  · cases e
theorem ee_extend {apos : Pos} (ho : EE X a fa) (ha : EA X [e] fs)
    (hbase : attributeBase a "extend" X.env (eval a X.env) = eval a X.env := by rfl)
    (hfew : ((backTo pos (starEach [e] X.env)).all (fun x => !x.1) && (backToKw pos (keywordEach [] X.env)).all (fun x => x.1.isSome)
      && decide ([e].length + ([] : List Keyword).length + (if ([] : List Keyword).isEmpty then 0 else 1) < 30)) = true := by rfl)
    (hline : (apos.endLine == pos.line) = true := by rfl) (hs : starEach [e] X.env = (false, eval e X.env) :: starEach [] X.env := by rfl) (hplain : (backTo pos (starEach [] X.env)).any (·.1) = false := by rfl) :
    EE X (.Call (.Attribute a "extend" apos) [e] [] pos) (eMt gExtend fa fs) := ee_mt PySem.F.slot_list_extend PySem.F.type_list_extend mt_extend rm_extend ho ha hbase hfew hline hs hplain
/-- x.remove(y), data -/
def rRemQ (K : PySem.W.Frag) : V → List V → Hp → VK → Prop := fun x xs H Q => ∃ (l : Addr) (ws : List V) (y : V) (ds : List PyData) (d : PyData) (j : Nat), x = .ref l ∧ xs = [y] ∧ H l = some (.lst ws) ∧ Paired (Rp K H) ds ws ∧ Rp K H d y ∧ PyData.plainAll ds = true ∧ d.plain = true ∧
  min (PyData.depthAll ds) d.depth ≤ 60 ∧ SeqAt.dataPlace ds d = some j ∧ Q .non (upd H l (.lst (ws.eraseIdx j)))
theorem mt_removeQ (hu : X.A.units + 62 < cLine) : MtR X "list.remove" (rRemQ X.K) := by
  intro pins s σ H x xs v us Q I rx rxs h
  obtain ⟨l, ws, y, ds, d, j, rfl, rfl, hH, hp, hy, h1, h2, h3, hj, q⟩ := h
  cases rx
  obtain ⟨u, rfl, ru⟩ := rxs.one
  obtain ⟨z, its, n, r, hl, e⟩ := I.lstM hH
  obtain ⟨as, ra⟩ := Dp.readsAll I ds ws its (rpa_dp ds ws (rpa_iff.mpr hp)) r
  obtain ⟨bs, rb⟩ := Dp.reads I d y u (rp_dp d y hy) ru
  have hjl : j < ds.length := (List.findIdx?_eq_some_iff_getElem.mp hj).1
  have hlen := pr_len hp
  refine SeqAt.remove_list_data (vs := its.toArray) ⟨_, e, rfl, n, rfl⟩ (by simpa using ra) rb h1 h2 (by omega) hj (by rw [List.size_toArray]; omega) ?_
  refine ⟨.non, _, I.lset (its' := its.eraseIdx j) hH e ?_ (r.eraseIdx j) ?_, rfl, q⟩
  · show its.toArray.eraseIdxIfInBounds j = (its.eraseIdx j).toArray
    rw [List.eraseIdxIfInBounds_toArray]
  · have := len_erase ws j
    omega
def gRemove : Val → List Val → Sto → Option (Val × Sto)
  | .c k, [a], S => match S[k]?, look S (.c k), look S a with
    | some (.lst xs), some (.list ds), some d => if PyData.plainAll ds = true ∧ d.plain = true ∧ min (PyData.depthAll ds) d.depth ≤ 60 then (SeqAt.dataPlace ds d).map fun j => (.d .none, S.set k (.lst (xs.eraseIdx j))) else none
    | _, _, _ => none
  | _, _, _ => none
theorem rm_remove : RM K (rRemQ K) gRemove := fun F m H S a as v vs res S' ok ra rs e Q k => by
  unfold gRemove at e
  split at e
  · rename_i kk a
    split at e
    · rename_i xs ds d h1 h2 h3
      split at e
      · rename_i hz
        cases hj : SeqAt.dataPlace ds d with
        | none => rw [hj] at e; cases e
        | some j =>
          rw [hj] at e
          cases e
          obtain ⟨q, vs', e1, h4, h5⟩ := rp_list.mp (look_ok ok h2 ra)
          obtain ⟨p, hm, rfl⟩ := ra
          cases e1
          obtain ⟨hF, ws, h6, h7⟩ := ok.cell _ _ _ hm h1
          rw [h6] at h4
          cases h4
          cases rs with
          | cons r1 t =>
            cases t
            obtain ⟨ok2, st2⟩ := al_M ok hm h1 (pr_erase j h7)
            exact ⟨_, _, _, ds, d, j, rfl, rfl, h6, h5, look_ok ok h3 r1, hz.1, hz.2.1, hz.2.2, hj, k _ _ _ _ st2 ok2 (rv_none.mpr rfl)⟩
      · cases e
    · cases e
  · cases e
theorem ee_remove {apos : Pos} (hu : X.A.units + 62 < cLine) (ho : EE X a fa) (ha : EA X [e] fs)
    (hbase : attributeBase a "remove" X.env (eval a X.env) = eval a X.env := by rfl)
    (hfew : ((backTo pos (starEach [e] X.env)).all (fun x => !x.1) && (backToKw pos (keywordEach [] X.env)).all (fun x => x.1.isSome)
      && decide ([e].length + ([] : List Keyword).length + (if ([] : List Keyword).isEmpty then 0 else 1) < 30)) = true := by rfl)
    (hline : (apos.endLine == pos.line) = true := by rfl) (hs : starEach [e] X.env = (false, eval e X.env) :: starEach [] X.env := by rfl) (hplain : (backTo pos (starEach [] X.env)).any (·.1) = false := by rfl) :
    EE X (.Call (.Attribute a "remove" apos) [e] [] pos) (eMt gRemove fa fs) := ee_mt PySem.F.slot_list_remove PySem.F.type_list_remove (mt_removeQ hu) rm_remove ho ha hbase hfew hline hs hplain
def gIndex : Val → List Val → Sto → Option (Val × Sto)
  | o, [a], S => match look S o, look S a with
    | some (.list ds), some d => if SeqAt.shaped (.list ds) = true ∧ SeqAt.shaped d = true then (SeqAt.dataPlace ds d).map fun j => (.d (.int j), S) else none
    | _, _ => none
  | _, _, _ => none
theorem rm_index : RM K (rIndexD K) gIndex := fun F m H S a as v vs res S' ok ra rs e Q k => by
  unfold gIndex at e
  split at e
  · rename_i o a
    split at e
    · rename_i ds d h2 h3
      split at e
      · rename_i hz
        cases hj : SeqAt.dataPlace ds d with
        | none => rw [hj] at e; cases e
        | some j =>
          rw [hj] at e
          cases e
          cases rs with
          | cons r1 t =>
            cases t
            have hr := look_ok ok h2 ra
            obtain ⟨q, vs', rfl, h4, h5⟩ := rp_list.mp hr
            obtain ⟨hl, h6, h7⟩ := List.findIdx?_eq_some_iff_getElem.mp hj
            refine ⟨q, _, d, ds, j, ds[j], rfl, rfl, rp_dp _ _ hr, rp_dp _ _ (look_ok ok h3 r1), hz.1, hz.2, List.getElem?_eq_getElem hl, h6, fun m z' hm hz' => ?_, k.here ok (rv_int.mpr rfl)⟩
            obtain ⟨hml, e2⟩ := List.getElem?_eq_some_iff.mp hz'
            have := h7 m hm
            rw [e2] at this
            simpa using this
      · cases e
    · cases e
  · cases e
theorem ee_index {apos : Pos} (hu : X.A.units + 65 < cLine) (ho : EE X a fa) (ha : EA X [e] fs)
    (hbase : attributeBase a "index" X.env (eval a X.env) = eval a X.env := by rfl)
    (hfew : ((backTo pos (starEach [e] X.env)).all (fun x => !x.1) && (backToKw pos (keywordEach [] X.env)).all (fun x => x.1.isSome)
      && decide ([e].length + ([] : List Keyword).length + (if ([] : List Keyword).isEmpty then 0 else 1) < 30)) = true := by rfl)
    (hline : (apos.endLine == pos.line) = true := by rfl) (hs : starEach [e] X.env = (false, eval e X.env) :: starEach [] X.env := by rfl) (hplain : (backTo pos (starEach [] X.env)).any (·.1) = false := by rfl) :
    EE X (.Call (.Attribute a "index" apos) [e] [] pos) (eMt gIndex fa fs) := ee_mt PySem.F.slot_list_index PySem.F.type_list_index (mt_indexD hu) rm_index ho ha hbase hfew hline hs hplain
/-! ### xs[::-1], list(range(..)), reversed(..) -/
def eRev (md : Md) (fa : Ef) : Ef := fun ρ S => bnd (fa ρ S) fun o S1 => match viewL S1 o with
  | some xs => alloc md xs.reverse S1
  | none => none
theorem ee_rev (md : Md) {k : Nat} {p1 p3 : Pos} (ha : EE X a fa) : EE X (.Subscript a (.Slice none none (some (.UnaryOp .USub (.Constant (.int 1) k p1) p2)) p3) pos) (eRev md fa) :=
  ee_of (L2.pe_revL ha) fun F m H S ρ σ res S' ok ro e Q k => by
    obtain ⟨o, S1, e1, e⟩ := bnd_inv e
    refine sndE ok ro e1 _ fun v F1 m1 H1 st1 ok1 r1 => ?_
    split at e
    · rename_i xs hx
      obtain ⟨p, ws, rfl, q1, q2⟩ := viewL_ok ok1 hx r1
      exact ⟨p, ws, rfl, q1, fun q hq => alloc_ok ok1 (pr_reverse q2) e (k.on st1) hq⟩
    · cases e
def eLR1 (md : Md) (fa : Ef) : Ef := fun ρ S => bnd (fa ρ S) fun o S1 => match o with
  | .d (.int n) => if -(2 ^ 62) ≤ n ∧ n ≤ 16777216 then alloc md ((rngD 0 n.toNat).map .d) S1 else none
  | _ => none
theorem rgV_rng (lo hi : Int) : Paired (RV K F m) ((rngD lo (hi - lo).toNat).map Val.d) (rgV lo hi) := by
  refine rp_rvs ?_
  unfold rngD rgV
  refine pr_map (R := fun (i : Nat) v => v = V.int (lo + (i : Nat))) (fun c b h => rp_int.mpr h) ?_
  have : ∀ xs : List Nat, Paired (fun (i : Nat) v => v = V.int (lo + (i : Nat))) xs (xs.map fun i => V.int (lo + (i : Nat))) := fun xs => by
    induction xs with
    | nil => exact .nil
    | cons x xs ih => exact .cons rfl ih
  exact this _
theorem ee_lr1 (md : Md) (hml : X.mg "list" = none) (hmr : X.mg "range" = none) (ha : EE X a fa) (hgl : Gl X "list" := by rfl) (hgr : Gl X "range" := by rfl) (hc : X.calm = true := by rfl)
    (na : starEach [a] X.env = (false, eval a X.env) :: starEach [] X.env := by rfl) (na2 : starEach [.Call (.Name "range" p2) [a] [] pos2] X.env = (false, eval (.Call (.Name "range" p2) [a] [] pos2) X.env) :: starEach [] X.env := by rfl) :
    EE X (.Call (.Name "list" p) [.Call (.Name "range" p2) [a] [] pos2] [] pos) (eLR1 md fa) :=
  ee_of (L2.pe_listRg hc hgl hml (L2.prg_1 hgr hmr ha na) na2) fun F m H S ρ σ res S' ok ro e Q k => by
    obtain ⟨o, S1, e1, e⟩ := bnd_inv e
    refine sndE ok ro e1 _ fun v F1 m1 H1 st1 ok1 r1 => ?_
    split at e
    · rename_i n
      split at e
      · rename_i hz
        cases rv_int.mp r1
        refine ⟨n, rfl, ⟨by omega, by omega, by omega, by omega, by omega⟩, fun q hq => ?_⟩
        have := rgV_rng (K := X.K) (F := F1) (m := m1) 0 n
        rw [Int.sub_zero] at this
        exact alloc_ok ok1 this e (k.on st1) hq
      · cases e
    · cases e
/-! ### sorted(xs), data -/
open Classical in
def SortOk (ds : List PyData) : Prop := PySem.W.AllAlike ds ∧ PySem.W.Sortable ds ∧ (∀ d ∈ ds, d.depth ≤ 60)
def sortD (ds : List PyData) : List PyData := ds.mergeSort (PySem.W.dataLe false id)
def rSortedQ (K : PySem.W.Frag) : List V → Hp → VK → Prop := fun vs H Q => ∃ (F : Hp) (a : Addr) (ws : List V) (ds : List PyData), Same F H ∧ vs = [V.ref a] ∧ SqL K H a ws ∧ Paired (Rp K F) ds ws ∧ SortOk ds ∧
  ∀ (ws' : List V) (p : Addr), Paired (Rp K F) (sortD ds) ws' → H p = none → Q (.ref p) (upd H p (.lst ws'))
theorem each_of {K : PySem.W.Frag} {H : Hp} : ∀ {ds : List PyData} {ws : List V} {its : List Value}, Paired (Rp K H) ds ws → Vals ws its → PySem.W.EachIs (fun v b => ∃ u, RelV u v ∧ Rp K H b u) its ds
  | _, _, _, .nil, .nil => .nil
  | _, _, _, .cons r t, .cons q u => .cons ⟨_, q, r⟩ (each_of t u)
theorem of_each {K : PySem.W.Frag} {H : Hp} : ∀ {ds : List PyData} {its : List Value}, PySem.W.EachIs (fun v b => ∃ u, RelV u v ∧ Rp K H b u) its ds → ∃ ws, Paired (Rp K H) ds ws ∧ Vals ws its
  | _, _, .nil => ⟨[], .nil, .nil⟩
  | _, _, .cons ⟨u, q, r⟩ t => by
    obtain ⟨ws, h1, h2⟩ := of_each t
    exact ⟨u :: ws, .cons r h1, .cons q h2⟩
theorem cr_sortedQ (hu : X.A.units + 63 < cLine) : CallR X (.builtin "sorted") (rSortedQ X.K) := by
  intro pins s σ H vs us Q I r h
  obtain ⟨F, a, ws, ds, hF, rfl, hs, hp, ⟨h1, h2, h3⟩, q⟩ := h
  obtain ⟨its, rv, hl, hz⟩ := I.list hs
  rw [Vals.ref1 r]
  have ei := each_of hp rv
  have er : PySem.W.EachIs (fun v b => ∃ as, Reads s.heap v (id b) as) its ds := ei.mono fun v b ⟨u, q1, q2⟩ => Dp.reads I b u v (rp_dp b u (rp_mono hF b u q2)) q1
  refine PySem.W.sorted_data (enc := id) (bs := ds) hl.isList ei er (by rw [List.map_id]; exact h1) (by rw [List.map_id]; exact h2) (by rw [← ei.length, ← rv.length]; exact hz) (fun b hb => by have := h3 b hb; show _ + 2 + b.depth < _; omega) fun out ho eo => ?_
  obtain ⟨ws', k1, k2⟩ := of_each eo
  obtain ⟨ep, he'⟩ := PyProof.Rows.sortedAll_at s.heap its out.toArray
  have hlen : ws'.length ≤ sizeLine := by
    rw [k2.length, ho, ← ei.length, ← rv.length]
    exact hz
  exact ⟨.ref _, upd H (s.heap.objs.size + 1) (.lst ws'), I.laid (t' := s.toks) (fun _ _ => PyProof.Rows.sortedAll_old) (Nat.le_succ _) ⟨hlen, out, ep, k2, he'⟩, rfl, q ws' _ k1 (I.hok.fresh (Nat.le_succ _))⟩
open Classical in
noncomputable def gSorted (md : Md) : List Val → Sto → Option (Val × Sto)
  | [a], S => match viewS S a with
    | some xs => match unD xs with
      | some ds => if SortOk ds then alloc md ((sortD ds).map .d) S else none
      | none => none
    | _ => none
  | _, _ => none
theorem cg_sorted (md : Md) (hu : X.A.units + 63 < cLine) : CallG X (.builtin "sorted") (gSorted md) := ⟨_, cr_sortedQ hu, fun F m H S as vs res S' ok rs e Q k => by
  unfold gSorted at e
  split at e
  · rename_i a
    split at e
    · rename_i xs hd
      split at e
      · rename_i ds hx
        split at e
        · rename_i hz
          cases rs with
          | cons r1 t =>
            cases t
            obtain ⟨p, ws, rfl, h1, h2⟩ := viewS_ok ok hd r1
            exact ⟨F, p, ws, ds, ok.ex, rfl, .of h1, unD_ok hx h2, hz, fun ws' q h3 hq => alloc_ok ok (rp_rvs h3) e k hq⟩
        · cases e
      · cases e
    · cases e
  · cases e⟩
/-! ### reversed(..) in a loop -/
theorem hu65 {A : Around} {k : Nat} (hr : RoomG k A) : A.units + 63 < cLine := by have := hr.room.un; omega
theorem hu65b {A : Around} {k : Nat} (hr : RoomG k A) : A.units + 62 < cLine := by have := hr.room.un; omega
theorem hu65c {A : Around} {k : Nat} (hr : RoomG k A) : A.units + 65 < cLine := by have := hr.room.un; omega
end
end QL

namespace QL
open PySem PySem.Spec PyProof.Rows L2
section
variable {X : Cx} {K : PySem.W.Frag} {a b c e : Expr} {es : List Expr} {pos : Pos} {f g h : Tf} {fa fb fc : Ef} {fs : Af} {st : Stmt} {rest : List Stmt} {u v : Sf}
/-! ### walks over what may change: the item at each turn is asked of the store -/
abbrev Dy := Sto → Nat → Option (Option Val)
abbrev Jf := Rho → Sto → Option (Dy × Sto)
def ItDy (K : PySem.W.Frag) (J : It) (m0 : List Addr) (F : Hp) (dy : Dy) : Prop := ∀ i F1 m1 H1 S1, Same F F1 → (∃ t, m1 = m0 ++ t) → SOk K F1 m1 H1 S1 →
  (∀ x, dy S1 i = some (some x) → J.go i H1 ∧ ∀ v H2, J.yld i H1 v H2 → ∃ F2, Stp F1 m1 H1 F2 m1 H2 ∧ SOk K F2 m1 H2 S1 ∧ RV K F2 m1 x v ∧ (∀ a o, H1 a = some o → H2 a = some o)) ∧ (dy S1 i = some none → J.stop i H1)
def tJ (K : PySem.W.Frag) (f : Jf) : TI := fun σ H R => ∃ F m S ρ dy S', SOk K F m H S ∧ ROk K F m ρ σ ∧ f ρ S = some (dy, S') ∧ ∀ J F' m' H', Stp F m H F' m' H' → SOk K F' m' H' S' → ItDy K J m' F' dy → R J H'
def EJ (X : Cx) (tg iter : Expr) (f : Jf) : Prop := PI X tg iter (tJ X.K f)
def SndJ (K : PySem.W.Frag) (w : TI) (f : Jf) : Prop := ∀ ⦃F m H S ρ σ dy S'⦄, SOk K F m H S → ROk K F m ρ σ → f ρ S = some (dy, S') → ∀ R : It → Hp → Prop, (∀ J F' m' H', Stp F m H F' m' H' → SOk K F' m' H' S' → ItDy K J m' F' dy → R J H') → w σ H R
theorem ej_of {tg it : Expr} {t : TI} {f : Jf} (h : PI X tg it t) (s : SndJ X.K t f) : EJ X tg it f := ⟨fun pins s' σ H R I ⟨_, _, _, _, _, _, ok, ro, e, k⟩ => h.run pins s' σ H R I (s ok ro e R k)⟩
theorem sndJ {f : Jf} : SndJ K (tJ K f) f := fun _ _ _ _ _ _ _ _ ok ro e _ k => ⟨_, _, _, _, _, _, ok, ro, e, k⟩
def forD (dy : Dy) (fg : Gf) (fb : Sf) : Nat → Nat → Rho → Sto → Option (Fl × Rho × Sto)
  | 0, _, _, _ => none
  | n + 1, i, ρ, S => match dy S i with
    | some (some d) => match fg d ρ S with
      | some (ρ1, S1) => match fb ρ1 S1 with
        | some (.nx, ρ2, S2) => forD dy fg fb n (i + 1) ρ2 S2
        | some (.ct, ρ2, S2) => forD dy fg fb n (i + 1) ρ2 S2
        | some (.bk, ρ2, S2) => some (.nx, ρ2, S2)
        | some (.rt v, ρ2, S2) => some (.rt v, ρ2, S2)
        | none => none
      | none => none
    | some none => some (.nx, ρ, S)
    | none => none
def sForD (fi : Jf) (fg : Gf) (fb : Sf) : Sf := fun ρ S => match fi ρ S with
  | some (dy, S1) => forD dy fg fb fuelW 0 ρ S1
  | none => none
def lcD (dy : Dy) (fg : Gf) (ft : Tf) (fe : Ef) (ρ : Rho) : Nat → Nat → Sto → Option (List Val × Sto)
  | 0, _, _ => none
  | n + 1, i, S => match dy S i with
    | some (some d) => match fg d ρ S with
      | some (ρ1, S1) => match ft ρ1 S1 with
        | some (true, S2) => match fe ρ1 S2 with
          | some (x, S3) => match lcD dy fg ft fe ρ n (i + 1) S3 with
            | some (xs, S4) => some (x :: xs, S4)
            | none => none
          | none => none
        | some (false, S2) => lcD dy fg ft fe ρ n (i + 1) S2
        | none => none
      | none => none
    | some none => some ([], S)
    | none => none
def eLcD (md : Md) (fi : Jf) (fg : Gf) (ft : Tf) (fe : Ef) (vs : List Nat) : Ef := fun ρ S => match fi ρ S with
  | some (dy, S1) => match lcD dy fg ft fe (wipeR ρ vs) fuelW 0 S1 with
      | some (xs, S2) => alloc md xs S2
      | none => none
  | none => none
theorem snd_forD {fi : Jf} {fg : Gf} {fb : Sf} : SndS K (tFor (tJ K fi) (tG K fg) (tS K fb)) (sForD fi fg fb) := fun F m H S ρ σ fl ρ' S' ok ro e D k => by
  unfold sForD at e
  split at e
  · rename_i dy S1 q
    refine sndJ ok ro q _ fun J F1 m1 H1 st1 ok1 it => ?_
    refine ⟨fun i n σ2 H2 => ∃ F2 m2 S2 ρ2, Stp F1 m1 H1 F2 m2 H2 ∧ SOk K F2 m2 H2 S2 ∧ ROk K F2 m2 ρ2 σ2 ∧ forD dy fg fb n i ρ2 S2 = some (fl, ρ', S'), ⟨fuelW, F1, m1, S1, ρ, Stp.refl, ok1, ro_mono st1 ro, e⟩, ?_⟩
    rintro i n σ2 H2 ⟨F2, m2, S2, ρ2, st2, ok2, ro2, e2⟩
    obtain ⟨g1, g2⟩ := it i F2 m2 H2 S2 st2.ex st2.pre ok2
    cases n with
    | zero => cases e2
    | succ n =>
    rw [forD] at e2
    split at e2
    · rename_i d0 hdy
      obtain ⟨hgo, g3⟩ := g1 d0 hdy
      refine .inr ⟨hgo, fun σ3 H3 => ∃ F3 m3 S3 ρ3, Stp F1 m1 H1 F3 m3 H3 ∧ SOk K F3 m3 H3 S3 ∧ ROk K F3 m3 ρ3 σ3 ∧ forD dy fg fb n (i + 1) ρ3 S3 = some (fl, ρ', S'), fun σ3 H3 ⟨F3, m3, S3, ρ3, h⟩ => ⟨n, Nat.lt_succ_self n, F3, m3, S3, ρ3, h⟩, fun x H3 hy => ?_⟩
      obtain ⟨F3, st3, ok3, r3, _⟩ := g3 x H3 hy
      split at e2
      · rename_i ρ4 S4 q4
        refine sndG ok3 (ro_mono st3 ro2) (a := d0) r3 q4 _ fun σ4 F4 m4 H4 st4 ok4 ro4 => ?_
        have s4 := (st2.trans st3).trans st4
        split at e2
        · rename_i ρ5 S5 q5
          exact sndS ok4 ro4 q5 _ fun σ5 F5 m5 H5 st5 ok5 ro5 => ⟨F5, m5, S5, ρ5, s4.trans st5, ok5, ro5, e2⟩
        · rename_i ρ5 S5 q5
          exact sndS ok4 ro4 q5 _ fun σ5 F5 m5 H5 st5 ok5 ro5 => ⟨F5, m5, S5, ρ5, s4.trans st5, ok5, ro5, e2⟩
        · rename_i ρ5 S5 q5
          cases e2
          exact sndS ok4 ro4 q5 _ fun σ5 F5 m5 H5 st5 ok5 ro5 => k σ5 F5 m5 H5 ((st1.trans s4).trans st5) ok5 ro5
        · rename_i v ρ5 S5 q5
          cases e2
          exact sndS ok4 ro4 q5 _ fun w F5 m5 H5 st5 ok5 r5 => k w F5 m5 H5 ((st1.trans s4).trans st5) ok5 r5
        · cases e2
      · cases e2
    · rename_i hdy
      cases e2
      exact .inl ⟨g2 hdy, k σ2 F2 m2 H2 (st1.trans st2) ok2 ro2⟩
    · cases e2
  · cases e
theorem ss_forD {tg iter : Expr} {body : List Stmt} {fi : Jf} {fg : Gf} {fb : Sf} (hi : EJ X tg iter fi) (hg : EG X tg fg) (hb : SSs X body fb) (hp : PassesOwn (model X.prog X.w) X.A X.env X.xe := by exact PassesOwn.never) (hc : X.calm = true := by rfl)
    (hs : ∀ x, foldedSetIterable iter X.env x = pure x := by intro _; rfl) : SS X (.For tg iter body [] pos) (sForD fi fg fb) := ss_of (ps_for hp hc hi hg hb hs) snd_forD
theorem snd_lcD {md : Md} {fi : Jf} {tg : TG} {fg : Gf} {ft : Tf} {fe : Ef} {vs : List Nat} (hg : LcT K vs tg fg) : SndE K (tLc (tJ K fi) tg (tT K ft) (tE K fe) vs) (eLcD md fi fg ft fe vs) := fun F m H S ρ σ res S' ok ro e Q k => by
  unfold eLcD at e
  split at e
  · rename_i dy S1 q
    · split at e
      · rename_i xs S2 q2
        refine sndJ ok ro q _ fun J F1 m1 H1 st1 ok1 it => ?_
        intro D hD
        obtain ⟨hFD, hmD⟩ := ok1.none hD
        have ok1' : SOk K F1 m1 (upd H1 D (.lst [])) S1 := al_O ok1 hFD hmD
        have st0 : Stp F1 m1 H1 F1 m1 (upd H1 D (.lst [])) := ⟨Same.refl _, ⟨[], by simp⟩, fun _ h => .inl h, fun _ h h' => absurd h h', fun b o hb _ => by rw [upd_ne (ne_of_none hb hD)]; exact hb⟩
        -- what stays true from turn to turn
        refine ⟨fun i n H2 => i + n ≤ fuelW ∧ ∃ F2 m2 S3 acc ws ys, Stp F1 m1 H1 F2 m2 H2 ∧ SOk K F2 m2 H2 S3 ∧ F2 D = none ∧ D ∉ m2 ∧ H2 D = some (.lst ws) ∧ Paired (RV K F2 m2) acc ws ∧ acc.length ≤ i ∧ lcD dy fg ft fe (wipeR ρ vs) n i S3 = some (ys, S2) ∧ xs = acc ++ ys,
          ⟨fuelW, Nat.le_of_eq (Nat.zero_add _), F1, m1, S1, [], [], xs, st0, ok1', hFD, hmD, upd_same, .nil, Nat.le_refl _, q2, rfl⟩, ?_⟩
        rintro i n H2 ⟨hi, F2, m2, S3, acc, ws, ys, st2, ok2, hF2, hm2, hH2, hacc, hlen, e2, exs⟩
        obtain ⟨g1, g2⟩ := it i F2 m2 H2 S3 st2.ex st2.pre ok2
        have st12 := st2
        cases n with
        | zero => cases e2
        | succ n =>
        have hfw : fuelW < sizeLine := by rw [sizeLine_eq]; decide
        rw [lcD] at e2
        split at e2
        · rename_i d0 hdy
          obtain ⟨hgo, g3⟩ := g1 d0 hdy
          refine .inr ⟨hgo, fun H5 => ∃ F5 m5 S5 acc' ws' ys', Stp F1 m1 H1 F5 m5 H5 ∧ SOk K F5 m5 H5 S5 ∧ F5 D = none ∧ D ∉ m5 ∧ H5 D = some (.lst ws') ∧ Paired (RV K F5 m5) acc' ws' ∧ acc'.length ≤ i + 1 ∧ lcD dy fg ft fe (wipeR ρ vs) n (i + 1) S5 = some (ys', S2) ∧ xs = acc' ++ ys',
            fun H5 h => ⟨n, by omega, by omega, h⟩, fun x H3 hy => ?_⟩
          obtain ⟨F3, st3, ok3, r3, hkeep⟩ := g3 x H3 hy
          have hH3 := hkeep D _ hH2
          -- what a step says of D
          have onD : ∀ {Fa ma Ha Fb mb Hb}, Stp Fa ma Ha Fb mb Hb → Fa D = none → D ∉ ma → Ha D ≠ none → Fb D = none ∧ D ∉ mb := fun {Fa ma Ha Fb mb Hb} s h1 h2 h3 => by
            constructor
            · cases q9 : Fb D with
              | none => rfl
              | some o =>
                rcases s.newF D h1 (by rw [q9]; simp) with r | r
                · exact absurd r h2
                · exact absurd r h3
            · intro hmem
              rcases s.new D hmem with r | r
              · exact h2 r
              · exact h3 r
          obtain ⟨hF3, hm3⟩ := onD st3 hF2 hm2 (by rw [hH2]; simp)
          split at e2
          · rename_i ρ4 S4 q4
            have ro3 : ROk K F3 m2 (wipeR ρ vs) (wipe σ vs) := ro_wipe (ro_mono (st1.trans (st12.trans st3)) ro) vs
            refine hg.snd ok3 ro3 (a := d0) r3 q4 _ fun eS σ4 ro4 ew => ?_
            subst eS
            refine ⟨by rw [ew, wipe_wipe], ?_⟩
            split at e2
            · rename_i S5 q5
              refine sndT ok3 ro4 q5 _ fun F5 m5 H5 st5 ok5 => ?_
              rw [if_pos rfl]
              obtain ⟨hF5, hm5⟩ := onD st5 hF3 hm3 (by rw [hH3]; simp)
              have hH5 := st5.fr D _ hH3 hm3
              split at e2
              · rename_i y S6 q6
                refine sndE ok5 (ro_mono st5 ro4) q6 _ fun w F6 m6 H6 st6 ok6 r6 => ?_
                obtain ⟨hF6, hm6⟩ := onD st6 hF5 hm5 (by rw [hH5]; simp)
                have hH6 := st6.fr D _ hH5 hm5
                have sall := ((st2.trans st3).trans st5).trans st6
                refine ⟨ws, hH6, by rw [← pr_len hacc]; omega, ?_⟩
                split at e2
                · rename_i zs S7 q7
                  cases e2
                  refine ⟨F6, m6, S6, acc ++ [y], ws ++ [w], zs, ⟨sall.ex, sall.pre, sall.new, sall.newF, fun b o hb hm => ?_⟩, al_O ok6 hF6 hm6, hF6, hm6, upd_same, pr_append (rvs_mono ((st3.trans st5).trans st6) hacc) (.cons r6 .nil), by simp; omega, q7, by rw [exs, List.append_assoc]; rfl⟩
                  rw [upd_ne (ne_of_none hb hD)]
                  exact sall.fr b o hb hm
                · cases e2
              · cases e2
            · rename_i S5 q5
              refine sndT ok3 ro4 q5 _ fun F5 m5 H5 st5 ok5 => ?_
              rw [if_neg Bool.false_ne_true]
              obtain ⟨hF5, hm5⟩ := onD st5 hF3 hm3 (by rw [hH3]; simp)
              have hH5 := st5.fr D _ hH3 hm3
              exact ⟨F5, m5, S5, acc, ws, ys, (st2.trans st3).trans st5, ok5, hF5, hm5, hH5, rvs_mono (st3.trans st5) hacc, by omega, e2, exs⟩
            · cases e2
          · cases e2
        · rename_i hdy
          cases e2
          rw [List.append_nil] at exs
          subst exs
          refine .inl ⟨g2 hdy, ?_⟩
          cases md with
          | N =>
            cases e
            obtain ⟨o1, o2⟩ := al_Q ok2 hH2 hF2 hm2 hacc
            refine k _ F2 (m2 ++ [D]) H2 ⟨st1.ex.trans st12.ex, ?_, fun b hb => ?_, fun b h1 h2 => (st1.trans st12).newF b h1 h2, (st1.trans st12).fr⟩ o1 o2
            · obtain ⟨t1, e1⟩ := (st1.trans st12).pre
              exact ⟨t1 ++ [D], by rw [e1, List.append_assoc]⟩
            · rcases List.mem_append.mp hb with r | r
              · exact (st1.trans st12).new b r
              · rw [List.mem_singleton.mp r]
                right
                cases q9 : H D with
                | none => rfl
                | some o =>
                  by_cases hmm : D ∈ m
                  · obtain ⟨t1, e1⟩ := st1.pre
                    exact absurd (by rw [e1]; exact List.mem_append_left _ hmm) hmD
                  · rw [st1.fr D o q9 hmm] at hD; cases hD
          | D =>
            have e' : (unD xs).map (fun ds => (Val.d (.list ds), _)) = some (res, S') := e
            cases q9 : unD xs with
            | none => rw [q9] at e'; cases e'
            | some zs =>
              rw [q9] at e'; cases e'
              have hp := unD_ok q9 hacc
              have o1 := al_P ok2 hH2 hF2 hm2
              have ex2 : Same F2 (upd F2 D (.lst ws)) := fun b o hb => by rw [upd_ne (ne_of_none hb hF2)]; exact hb
              have st13 := st1.trans st12
              refine k _ (upd F2 D (.lst ws)) m2 H2 ⟨st13.ex.trans ex2, st13.pre, st13.new, fun b h1 h2 => ?_, st13.fr⟩ o1 (rv_list.mpr ⟨D, ws, rfl, upd_same, pr_mono (fun x v => rp_mono ex2 x v) hp⟩)
              by_cases hbD : b = D
              · subst hbD
                right
                cases q8 : H b with
                | none => rfl
                | some o =>
                  by_cases hmm : b ∈ m
                  · obtain ⟨t1, e1⟩ := st1.pre
                    exact absurd (by rw [e1]; exact List.mem_append_left _ hmm) hmD
                  · rw [st1.fr b o q8 hmm] at hD; cases hD
              · rw [upd_ne hbD] at h2
                exact st13.newF b h1 h2
        · cases e2
      · cases e
  · cases e
theorem rvM {F F' : Hp} {m m' : List Addr} (ex : Same F F') (pre : ∃ t, m' = m ++ t) {a : Val} {v : V} (h : RV K F m a v) : RV K F' m' a v := by
  cases a with
  | d x => exact rp_mono ex x v h
  | c k =>
    obtain ⟨p, h1, h2⟩ := h
    exact ⟨p, pre_get pre h1, h2⟩
  | s ns =>
    obtain ⟨p, h1, h2⟩ := h
    exact ⟨p, h1, ex.seq h2⟩
theorem stp_same {F : Hp} {m : List Addr} {H : Hp} : Stp F m H F m H := Stp.refl
/-! ### the items of a list, as it stands at each turn -/
def dSeq (a : Val) : Dy := fun S i => (viewQ S a).map fun xs => xs[i]?
def jSq (f : Ef) : Jf := fun ρ S => match f ρ S with
  | some (a, S1) => if (viewQ S1 a).isSome = true then some (dSeq a, S1) else none
  | none => none
def isTu : Val → Bool
  | .d (.tuple _) => true
  | _ => false
theorem viewQ_L {S : Sto} {a : Val} (h : isTu a = false) : viewQ S a = viewL S a := by
  cases a with
  | d x => cases x <;> first | rfl | cases h
  | c k => rfl
  | s ns => rfl
theorem view_at {F1 : Hp} {m1 : List Addr} {H1 : Hp} {S1 : Sto} {a : Val} {p : Addr} {xs : List Val} (ht : isTu a = false) (ok : SOk K F1 m1 H1 S1) (r : RV K F1 m1 a (.ref p)) (hv : viewQ S1 a = some xs) : ∃ ws, SqL K H1 p ws ∧ Paired (RV K F1 m1) xs ws := by
  rw [viewQ_L ht] at hv
  obtain ⟨p', ws, e, h1, h2⟩ := viewL_ok ok hv r
  cases e
  exact ⟨ws, h1, h2⟩
theorem itdy_list {F : Hp} {m : List Addr} {p : Addr} {a : Val} (ht : isTu a = false) (r : RV K F m a (.ref p)) : ItDy K (Itl K p) m F (dSeq a) := fun i F1 m1 H1 S1 ex pre ok => by
  have r1 := rvM ex pre r
  refine ⟨fun x hx => ?_, fun hx => ?_⟩
  · unfold dSeq at hx
    cases hv : viewQ S1 a with
    | none => rw [hv] at hx; cases hx
    | some xs =>
      rw [hv] at hx
      have hx : xs[i]? = some x := Option.some.inj hx
      obtain ⟨ws, h1, h2⟩ := view_at ht ok r1 hv
      obtain ⟨w, hw, rw'⟩ := pr_get h2 hx
      refine ⟨⟨ws, w, h1, hw⟩, fun v H2 hy => ?_⟩
      obtain ⟨rfl, hy⟩ := hy
      have := hy ws h1
      rw [hw] at this
      cases this
      exact ⟨F1, Stp.refl, ok, rw', fun _ _ h => h⟩
  · unfold dSeq at hx
    cases hv : viewQ S1 a with
    | none => rw [hv] at hx; cases hx
    | some xs =>
      rw [hv] at hx
      have hx : xs[i]? = none := Option.some.inj hx
      obtain ⟨ws, h1, h2⟩ := view_at ht ok r1 hv
      exact ⟨ws, h1, by rw [← pr_len h2]; exact List.getElem?_eq_none_iff.mp hx⟩
theorem itdy_tup {F : Hp} {m : List Addr} {p : Addr} {ds : List PyData} {vs : List V} (h : SqT K F p vs) (hv : Paired (Rp K F) ds vs) : ItDy K (Itt K p) m F (dSeq (.d (.tuple ds))) := fun i F1 m1 H1 S1 ex pre ok => by
  have hq : SqT K H1 p vs := same_t ok.ex (same_t ex h)
  have e : ∀ S : Sto, dSeq (.d (.tuple ds)) S i = some ((ds.map Val.d)[i]?) := fun S => rfl
  rw [e]
  refine ⟨fun x hx => ?_, fun hx => ?_⟩
  · have hx : (ds.map Val.d)[i]? = some x := Option.some.inj hx
    rw [List.getElem?_map] at hx
    cases q : ds[i]? with
    | none => rw [q] at hx; cases hx
    | some d =>
      rw [q] at hx
      cases hx
      obtain ⟨w, hw, rw'⟩ := pr_get hv q
      refine ⟨⟨vs, w, hq, hw⟩, fun v H2 hy => ?_⟩
      obtain ⟨rfl, hy⟩ := hy
      have := hy vs hq
      rw [hw] at this
      cases this
      exact ⟨F1, Stp.refl, ok, rp_mono ex d w rw', fun _ _ h => h⟩
  · have hx : (ds.map Val.d)[i]? = none := Option.some.inj hx
    rw [List.getElem?_eq_none_iff, List.length_map] at hx
    exact ⟨vs, hq, by rw [← pr_len hv]; exact hx⟩
theorem ej_seq {tg : Expr} (ha : EE X a fa) : EJ X tg a (jSq fa) := ej_of (pi_seq ha) fun F m H S ρ σ dy S' ok ro e R k => by
  unfold jSq at e
  split at e
  · rename_i o S1 q1
    split at e
    · rename_i hs
      cases e
      refine sndE ok ro q1 _ fun v F1 m1 H1 st1 ok1 r1 => ?_
      obtain ⟨xs, hs⟩ := Option.isSome_iff_exists.mp hs
      by_cases ht : isTu o = false
      · rw [viewQ_L ht] at hs
        obtain ⟨p, ws, rfl, h1, h2⟩ := viewL_ok ok1 hs r1
        exact ⟨p, rfl, .inl ⟨⟨ws, h1⟩, k _ _ _ _ st1 ok1 (itdy_list ht r1)⟩⟩
      · have : ∃ ds, o = .d (.tuple ds) := by
          cases o with
          | d x => cases x <;> first | exact ⟨_, rfl⟩ | exact absurd rfl ht
          | c k => exact absurd rfl ht
          | s ns => exact absurd rfl ht
        obtain ⟨ds, rfl⟩ := this
        obtain ⟨p, vs, rfl, h1, h2⟩ := rp_tuple.mp r1
        exact ⟨p, rfl, .inr ⟨⟨vs, same_t ok1.ex h1⟩, k _ _ _ _ st1 ok1 (itdy_tup h1 h2)⟩⟩
    · cases e
  · cases e
def dEn (a : Val) : Dy := fun S i => match viewQ S a with
  | some xs => match xs[i]? with
    | some (.d x) => some (some (.d (.tuple [.int (i : Nat), x])))
    | some _ => none
    | none => some none
  | none => none
def jEn (fs : Af) : Jf := fun ρ S => match fs ρ S with
  | some ([a], S1) => if (viewQ S1 a).isSome = true ∧ isTu a = false then some (dEn a, S1) else none
  | _ => none
theorem itdy_enum {F : Hp} {m : List Addr} {p : Addr} {a : Val} (ht : isTu a = false) (r : RV K F m a (.ref p)) : ItDy K (Ite K p) m F (dEn a) := fun i F1 m1 H1 S1 ex pre ok => by
  have r1 := rvM ex pre r
  refine ⟨fun x hx => ?_, fun hx => ?_⟩
  · unfold dEn at hx
    split at hx
    · rename_i xs hv
      split at hx
      · rename_i d hd
        cases hx
        obtain ⟨ws, h1, h2⟩ := view_at ht ok r1 hv
        obtain ⟨w, hw, rw'⟩ := pr_get h2 hd
        refine ⟨⟨ws, w, h1, hw⟩, fun v H2 hy => ?_⟩
        obtain ⟨T, y, rfl, hT, rfl, hy⟩ := hy
        have := hy ws h1
        rw [hw] at this
        cases this
        obtain ⟨o1, o2⟩ := al_F (o := .tup [.int (i : Nat), w]) ok hT
        exact ⟨_, o2, o1, rp_tuple.mpr ⟨T, _, rfl, .of upd_same, .cons (rp_int.mpr rfl) (.cons (rp_mono o2.ex d w rw') .nil)⟩, fun b o hb => by rw [upd_ne (ne_of_none hb hT)]; exact hb⟩
      · cases hx
      · cases hx
    · cases hx
  · unfold dEn at hx
    split at hx
    · rename_i xs hv
      split at hx
      · cases hx
      · cases hx
      · rename_i hd
        obtain ⟨ws, h1, h2⟩ := view_at ht ok r1 hv
        exact ⟨ws, h1, by rw [← pr_len h2]; exact List.getElem?_eq_none_iff.mp hd⟩
    · cases hx
theorem ej_enum {tpos p : Pos} {elts : List Expr} {kk : Nat} (hm : X.mg "enumerate" = none) (ha : EA X [a] fs) (hg : Gl X "enumerate" := by rfl) (hs : starEach [a] X.env = [(false, eval a X.env)] := by rfl) : EJ X (.Tuple elts kk tpos) (.Call (.Name "enumerate" p) [a] [] pos) (jEn fs) := ej_of (pi_enum hg hm ha hs) fun F m H S ρ σ dy S' ok ro e R k => by
  unfold jEn at e
  split at e
  · rename_i a S1 q
    split at e
    · rename_i hz
      cases e
      refine sndA ok ro q _ fun vs F1 m1 H1 st1 ok1 r1 => ?_
      cases r1 with
      | cons r t =>
        cases t
        obtain ⟨xs, hs⟩ := Option.isSome_iff_exists.mp hz.1
        rw [viewQ_L hz.2] at hs
        obtain ⟨p, ws, rfl, h1, h2⟩ := viewL_ok ok1 hs r
        exact ⟨p, ws, rfl, h1, k _ _ _ _ st1 ok1 (itdy_enum hz.2 r)⟩
    · cases e
  · cases e
def dZp (a b : Val) : Dy := fun S i => match viewQ S a, viewQ S b with
  | some xs, some ys => match xs[i]?, ys[i]? with
    | some (.d x), some (.d y) => some (some (.d (.tuple [x, y])))
    | none, _ => some none
    | some _, none => some none
    | _, _ => none
  | _, _ => none
def jZp (fs : Af) : Jf := fun ρ S => match fs ρ S with
  | some ([.d (.tuple ds), .d (.tuple es)], S1) => some ((fun _ i => some ((zipD ds es).map Val.d)[i]?), S1)
  | some ([a, b], S1) => if (viewQ S1 a).isSome = true ∧ isTu a = false ∧ (viewQ S1 b).isSome = true ∧ isTu b = false then some (dZp a b, S1) else none
  | _ => none
theorem itdy_zip {F : Hp} {m : List Addr} {p p' : Addr} {a b : Val} (ht : isTu a = false) (r : RV K F m a (.ref p)) (ht' : isTu b = false) (r' : RV K F m b (.ref p')) : ItDy K (Itz K p p') m F (dZp a b) := fun i F1 m1 H1 S1 ex pre ok => by
  have r1 := rvM ex pre r
  have r2 := rvM ex pre r'
  refine ⟨fun x hx => ?_, fun hx => ?_⟩
  · unfold dZp at hx
    split at hx
    · rename_i xs ys hv hv'
      split at hx
      · rename_i d d' hd hd'
        cases hx
        obtain ⟨ws, h1, h2⟩ := view_at ht ok r1 hv
        obtain ⟨ws', h1', h2'⟩ := view_at ht' ok r2 hv'
        obtain ⟨w, hw, rw'⟩ := pr_get h2 hd
        obtain ⟨w', hw', rw''⟩ := pr_get h2' hd'
        refine ⟨⟨ws, ws', w, w', h1, h1', hw, hw'⟩, fun v H2 hy => ?_⟩
        obtain ⟨T, y, y', rfl, hT, rfl, hy, hy'⟩ := hy
        have q1 := hy ws h1
        have q2 := hy' ws' h1'
        rw [hw] at q1
        rw [hw'] at q2
        cases q1
        cases q2
        obtain ⟨o1, o2⟩ := al_F (o := .tup [w, w']) ok hT
        exact ⟨_, o2, o1, rp_tuple.mpr ⟨T, _, rfl, .of upd_same, .cons (rp_mono o2.ex d w rw') (.cons (rp_mono o2.ex d' w' rw'') .nil)⟩, fun b o hb => by rw [upd_ne (ne_of_none hb hT)]; exact hb⟩
      · cases hx
      · cases hx
      · cases hx
    · cases hx
  · unfold dZp at hx
    split at hx
    · rename_i xs ys hv hv'
      obtain ⟨ws, h1, h2⟩ := view_at ht ok r1 hv
      obtain ⟨ws', h1', h2'⟩ := view_at ht' ok r2 hv'
      split at hx
      · cases hx
      · rename_i hd
        exact ⟨ws, ws', h1, h1', .inl (by rw [← pr_len h2]; exact List.getElem?_eq_none_iff.mp hd)⟩
      · rename_i hd
        exact ⟨ws, ws', h1, h1', .inr (by rw [← pr_len h2']; exact List.getElem?_eq_none_iff.mp hd)⟩
      · cases hx
    · cases hx
theorem itdy_zipT {F : Hp} {m : List Addr} {p p' : Addr} {vs vs' : List V} {ds ds' : List PyData} (h : SqT K F p vs) (hv : Paired (Rp K F) ds vs) (h' : SqT K F p' vs') (hv' : Paired (Rp K F) ds' vs') : ItDy K (RZ.ItzT K p p') m F (fun _ i => some ((zipD ds ds').map Val.d)[i]?) := fun i F1 m1 H1 S1 ex pre ok => by
  obtain ⟨g1, g2, g3⟩ := itok_zipT h hv h' hv' i F1 m1 H1 S1 ex ok
  refine ⟨fun x hx => ?_, fun hx => ?_⟩
  · have hx : ((zipD ds ds').map Val.d)[i]? = some x := Option.some.inj hx
    have hl := (List.getElem?_eq_some_iff.mp hx).1
    rw [List.length_map] at hl
    refine ⟨g1 hl, fun v H2 hy => ?_⟩
    obtain ⟨d, F2, e1, s1, o1, r1, k1⟩ := g3 v H2 hl hy
    rw [List.getElem?_map, e1] at hx
    cases hx
    exact ⟨F2, s1, o1, r1, k1⟩
  · have hx : ((zipD ds ds').map Val.d)[i]? = none := Option.some.inj hx
    rw [List.getElem?_eq_none_iff, List.length_map] at hx
    exact g2 hx
theorem ej_zip {tpos p : Pos} {elts : List Expr} {kk : Nat} (hm : X.mg "zip" = none) (ha : EA X [a, b] fs) (hg : Gl X "zip" := by rfl) (hs : starEach [a, b] X.env = (false, eval a X.env) :: starEach [b] X.env := by rfl) (hpl : (backTo pos (starEach [b] X.env)).any (·.1) = false := by rfl) : EJ X (.Tuple elts kk tpos) (.Call (.Name "zip" p) [a, b] [] pos) (jZp fs) := ej_of (RZ.pi_zipA hg hm ha hs hpl) fun F m H S ρ σ dy S' ok ro e R k => by
  unfold jZp at e
  split at e
  · rename_i xs ys S1 q
    cases e
    refine sndA ok ro q _ fun vs F1 m1 H1 st1 ok1 r1 => ?_
    cases r1 with
    | cons r t =>
      cases t with
      | cons r2 t =>
        cases t
        obtain ⟨p, ws, rfl, h1, h2⟩ := rv_tuple.mp r
        obtain ⟨p', ws', rfl, h1', h2'⟩ := rv_tuple.mp r2
        exact ⟨p, p', ws, ws', rfl, .inr ⟨same_t ok1.ex h1, same_t ok1.ex h1', k _ _ _ _ st1 ok1 (itdy_zipT h1 h2 h1' h2')⟩⟩
  · rename_i xs ys S1 hno q
    split at e
    · rename_i hz
      cases e
      refine sndA ok ro q _ fun vs F1 m1 H1 st1 ok1 r1 => ?_
      cases r1 with
      | cons r t =>
        cases t with
        | cons r2 t =>
          cases t
          obtain ⟨us, hu⟩ := Option.isSome_iff_exists.mp hz.1
          obtain ⟨us', hu'⟩ := Option.isSome_iff_exists.mp hz.2.2.1
          rw [viewQ_L hz.2.1] at hu
          rw [viewQ_L hz.2.2.2] at hu'
          obtain ⟨p, ws, rfl, h1, h2⟩ := viewL_ok ok1 hu r
          obtain ⟨p', ws', rfl, h1', h2'⟩ := viewL_ok ok1 hu' r2
          exact ⟨p, p', ws, ws', rfl, .inl ⟨h1, h1', k _ _ _ _ st1 ok1 (itdy_zip hz.2.1 r hz.2.2.2 r2)⟩⟩
    · cases e
  · cases e
section
variable {p p2 pos2 : Pos} {tg iter : Expr} {st : Stmt} {elt : Expr} {ifs : List Expr} {ft : Tf} {fe : Ef}
theorem ee_lcD (md : Md) (own : List (Str × Nat)) {scope : Scope} {fi : Jf} {tG' : TG} {fg : Gf} {ft : Tf} (hN : X.N.Nodup) (hi : EJ X tg iter fi) (ok : BlkOk X.N X.env.scope scope own)
    (hl : LcT X.K (own.map (·.2)) tG' fg) (hg : ∀ (s : Shared) (H : Hp) (C : Addr) (cl : List (Str × Addr)) (fp : List Addr), PG (X.blk s H scope (compEnvC scope cl C X.env) fp) tg tG')
    (ht : ∀ (s : Shared) (H : Hp) (C : Addr) (cl : List (Str × Addr)) (fp : List Addr), ETs (X.blk s H scope (compEnvC scope cl C X.env) fp) ifs ft)
    (he : ∀ (s : Shared) (H : Hp) (C : Addr) (cl : List (Str × Addr)) (fp : List Addr), EE (X.blk s H scope (compEnvC scope cl C X.env) fp) elt fe) (hc : X.calm = true := by rfl) (hs : ∀ x, foldedSetIterable iter X.env x = pure x := by intro _; rfl) :
    EE X (.ListComp elt [⟨tg, iter, ifs, 0⟩] scope pos) (eLcD md fi fg ft fe (own.map (·.2))) := ee_of (pe_lc (tt := tT X.K ft) (te := tE X.K fe) hc hN hi ok hg (fun s H C cl fp => ht s H C cl fp) (fun s H C cl fp => he s H C cl fp) hs) (snd_lcD hl)
theorem ss_setLcD (md : Md) (i : Nat) (own : List (Str × Nat)) {y : Str} {py spos : Pos} {scope : Scope} {fi : Jf} {tG' : TG} {fg : Gf} {ft : Tf} (hN : X.N.Nodup) (hi : EJ X tg iter fi) (ok : BlkOk X.N X.env.scope scope own)
    (hl : LcT X.K (own.map (·.2)) tG' fg) (hg : ∀ (s : Shared) (H : Hp) (C : Addr) (cl : List (Str × Addr)) (fp : List Addr), PG (X.blk s H scope (compEnvC scope cl C X.env) fp) tg tG')
    (ht : ∀ (s : Shared) (H : Hp) (C : Addr) (cl : List (Str × Addr)) (fp : List Addr), ETs (X.blk s H scope (compEnvC scope cl C X.env) fp) ifs ft)
    (he : ∀ (s : Shared) (H : Hp) (C : Addr) (cl : List (Str × Addr)) (fp : List Addr), EE (X.blk s H scope (compEnvC scope cl C X.env) fp) elt fe) (hc : X.calm = true := by rfl) (hy : X.N[i]? = some y := by rfl) (hyl : X.env.scope.names.lookup y = some .local := by rfl)
    (hsw : swapsWith (.ListComp elt [⟨tg, iter, ifs, 0⟩] scope pos) (some (.Name y py)) spos.line X.env = pure true := by exact sw_true rfl rfl rfl (by decide +kernel)) (hs : ∀ x, foldedSetIterable iter X.env x = pure x := by intro _; rfl) :
    SS X (.Assign [.Name y py] (.ListComp elt [⟨tg, iter, ifs, 0⟩] scope pos) spos) (sAsg (eLcD md fi fg ft fe (own.map (·.2))) (gN i)) := ss_of (ps_setLc (tt := tT X.K ft) (te := tE X.K fe) hc hN hy hyl hsw hi ok hg (fun s H C cl fp => ht s H C cl fp) (fun s H C cl fp => he s H C cl fp) hs) (snd_asg (snd_lcD hl) (sndN i))

end
end
end QL

namespace QL
open PySem PySem.Spec PyProof.Rows L2
/-! ### what is asked of a run of the plain functions -/
def wp {α : Type} (x : Option (α × Sto)) (Q : α → Sto → Prop) : Prop := ∃ a S, x = some (a, S) ∧ Q a S
def wpS (x : Option (Fl × Rho × Sto)) (Q : Fl → Rho → Sto → Prop) : Prop := ∃ fl ρ S, x = some (fl, ρ, S) ∧ Q fl ρ S
theorem wp_congr {α : Type} {x y : Option (α × Sto)} {Q : α → Sto → Prop} (h : x = y) : wp x Q = wp y Q := by rw [h]
theorem wpS_congr {x y : Option (Fl × Rho × Sto)} {Q : Fl → Rho → Sto → Prop} (h : x = y) : wpS x Q = wpS y Q := by rw [h]
section
variable {α β : Type}
theorem wp_some {a : α} {S : Sto} {Q : α → Sto → Prop} : wp (some (a, S)) Q ↔ Q a S := by
  constructor
  · rintro ⟨_, _, e, h⟩; cases e; exact h
  · exact fun h => ⟨_, _, rfl, h⟩
theorem wp_bnd {x : Option (α × Sto)} {f : α → Sto → Option (β × Sto)} {Q : β → Sto → Prop} : wp (bnd x f) Q ↔ wp x fun a S => wp (f a S) Q := by
  constructor
  · rintro ⟨b, S, e, h⟩
    obtain ⟨a, S1, e1, e2⟩ := bnd_inv e
    exact ⟨a, S1, e1, b, S, e2, h⟩
  · rintro ⟨a, S1, rfl, b, S, e, h⟩
    exact ⟨b, S, e, h⟩
theorem wp_mono {x : Option (α × Sto)} {Q R : α → Sto → Prop} (h : wp x Q) (k : ∀ a S, Q a S → R a S) : wp x R := by
  obtain ⟨a, S, e, q⟩ := h
  exact ⟨a, S, e, k a S q⟩
theorem wpS_mono {x : Option (Fl × Rho × Sto)} {Q R : Fl → Rho → Sto → Prop} (h : wpS x Q) (k : ∀ a ρ S, Q a ρ S → R a ρ S) : wpS x R := by
  obtain ⟨a, ρ, S, e, q⟩ := h
  exact ⟨a, ρ, S, e, k a ρ S q⟩
theorem wpS_some {fl : Fl} {ρ : Rho} {S : Sto} {Q : Fl → Rho → Sto → Prop} : wpS (some (fl, ρ, S)) Q ↔ Q fl ρ S := by
  constructor
  · rintro ⟨_, _, _, e, h⟩; cases e; exact h
  · exact fun h => ⟨_, _, _, rfl, h⟩
theorem wp_none {Q : α → Sto → Prop} : ¬ wp none Q := by
  rintro ⟨_, _, e, _⟩
  cases e
theorem wpS_none {Q : Fl → Rho → Sto → Prop} : ¬ wpS none Q := by
  rintro ⟨_, _, _, e, _⟩
  cases e
theorem nn {p q : Prop} (h : ¬ p) (k : ¬ q) : p ↔ q := ⟨fun z => (h z).elim, fun z => (k z).elim⟩
theorem wp_map {x : Option (α × Sto)} {g : α → β} {Q : β → Sto → Prop} : wp (x.map fun p => (g p.1, p.2)) Q ↔ wp x fun a S => Q (g a) S := by
  cases x with
  | none => exact nn wp_none wp_none
  | some p =>
    obtain ⟨a, S1⟩ := p
    refine Iff.trans wp_some ?_
    rw [wp_some]
end
/-- what follows a statement -/
def kSeq (f : Sf) (Q : Fl → Rho → Sto → Prop) : Fl → Rho → Sto → Prop
  | .nx, ρ, S => wpS (f ρ S) Q
  | fl, ρ, S => Q fl ρ S
theorem kSeq_nx {f : Sf} {Q : Fl → Rho → Sto → Prop} {ρ : Rho} {S : Sto} : kSeq f Q .nx ρ S ↔ wpS (f ρ S) Q := Iff.rfl
theorem kSeq_rt {f : Sf} {Q : Fl → Rho → Sto → Prop} {ρ : Rho} {S : Sto} {v : Val} : kSeq f Q (.rt v) ρ S ↔ Q (.rt v) ρ S := Iff.rfl
theorem kSeq_bk {f : Sf} {Q : Fl → Rho → Sto → Prop} {ρ : Rho} {S : Sto} : kSeq f Q .bk ρ S ↔ Q .bk ρ S := Iff.rfl
theorem kSeq_ct {f : Sf} {Q : Fl → Rho → Sto → Prop} {ρ : Rho} {S : Sto} : kSeq f Q .ct ρ S ↔ Q .ct ρ S := Iff.rfl
section
variable {f g : Sf} {e e1 e2 e3 : Ef} {t t1 t2 : Tf} {af : Af} {G : Gf} {ρ : Rho} {S : Sto} {Q : Fl → Rho → Sto → Prop} {R : Val → Sto → Prop} {RT : Bool → Sto → Prop} {RA : List Val → Sto → Prop}
theorem w_seq : wpS (sSeq f g ρ S) Q ↔ wpS (f ρ S) (kSeq g Q) := by
  unfold sSeq
  cases h : f ρ S with
  | none => constructor <;> rintro ⟨_, _, _, e, _⟩ <;> cases e
  | some p =>
    obtain ⟨fl, ρ1, S1⟩ := p
    cases fl <;> (rw [wpS_some]; first | exact Iff.rfl | exact wpS_some)
theorem w_nil : wpS (sNil ρ S) Q ↔ Q .nx ρ S := wpS_some
theorem w_ret : wpS (sRet e ρ S) Q ↔ wp (e ρ S) fun v S1 => Q (.rt v) ρ S1 := by
  unfold sRet
  cases h : e ρ S with
  | none => exact nn (by first | exact wp_none | exact wpS_none) (by first | exact wp_none | exact wpS_none | (rintro ⟨_, _, q, _⟩; cases q))
  | some p =>
    obtain ⟨a, S1⟩ := p
    refine Iff.trans wpS_some ?_
    rw [wp_some]
theorem w_expr : wpS (sExpr e ρ S) Q ↔ wp (e ρ S) fun v S1 => Q .nx ρ S1 := by
  unfold sExpr
  cases h : e ρ S with
  | none => exact nn (by first | exact wp_none | exact wpS_none) (by first | exact wp_none | exact wpS_none | (rintro ⟨_, _, q, _⟩; cases q))
  | some p =>
    obtain ⟨a, S1⟩ := p
    refine Iff.trans wpS_some ?_
    rw [wp_some]
theorem w_asg : wpS (sAsg e G ρ S) Q ↔ wp (e ρ S) fun v S1 => wp (G v ρ S1) fun ρ2 S2 => Q .nx ρ2 S2 := by
  unfold sAsg
  cases h : e ρ S with
  | none => exact nn (by first | exact wp_none | exact wpS_none) (by first | exact wp_none | exact wpS_none | (rintro ⟨_, _, q, _⟩; cases q))
  | some p =>
    rw [show (some p : Option (Val × Sto)) = some (p.1, p.2) from rfl, wp_some]
    show wpS (match G p.1 ρ p.2 with | some (ρ2, S2) => some (Fl.nx, ρ2, S2) | none => none) Q ↔ _
    cases h2 : G p.1 ρ p.2 with
    | none => exact nn (by first | exact wp_none | exact wpS_none) (by first | exact wp_none | exact wpS_none | (rintro ⟨_, _, q, _⟩; cases q))
    | some p =>
    obtain ⟨a, S1⟩ := p
    refine Iff.trans wpS_some ?_
    rw [wp_some]
theorem w_if : wpS (sIf t f g ρ S) Q ↔ wp (t ρ S) fun c S1 => (c = true → wpS (f ρ S1) Q) ∧ (c = false → wpS (g ρ S1) Q) := by
  unfold sIf
  cases h : t ρ S with
  | none => exact nn (by first | exact wp_none | exact wpS_none) (by first | exact wp_none | exact wpS_none | (rintro ⟨_, _, q, _⟩; cases q))
  | some p =>
    obtain ⟨c, S1⟩ := p
    rw [wp_some]
    cases c <;> simp
theorem w_par {i j : Nat} : wpS (sPar i j af ρ S) Q ↔ wp (af ρ S) fun vs S1 => ∃ a b, vs = [a, b] ∧ Q .nx ((ρ.set i (some a)).set j (some b)) S1 := by
  unfold sPar
  cases h : af ρ S with
  | none => exact nn (by first | exact wp_none | exact wpS_none) (by first | exact wp_none | exact wpS_none | (rintro ⟨_, _, q, _⟩; cases q))
  | some p =>
    obtain ⟨vs, S1⟩ := p
    rw [wp_some]
    match vs with
    | [] => exact nn (by first | exact wp_none | exact wpS_none) (by first | exact wp_none | exact wpS_none | (rintro ⟨_, _, q, _⟩; cases q))
    | [_] => exact nn (by first | exact wp_none | exact wpS_none) (by first | exact wp_none | exact wpS_none | (rintro ⟨_, _, q, _⟩; cases q))
    | [a, b] =>
      refine wpS_some.trans ⟨fun h => ⟨a, b, rfl, h⟩, ?_⟩
      rintro ⟨_, _, e, h⟩
      cases e
      exact h
    | _ :: _ :: _ :: _ => exact nn (by first | exact wp_none | exact wpS_none) (by first | exact wp_none | exact wpS_none | (rintro ⟨_, _, q, _⟩; cases q))
theorem w_for {fi : If} : wpS (sFor fi G f ρ S) Q ↔ wp (fi ρ S) fun ds S1 => wpS (forL G f ds ρ S1) Q := by
  unfold sFor
  cases h : fi ρ S with
  | none => exact nn (by first | exact wp_none | exact wpS_none) (by first | exact wp_none | exact wpS_none | (rintro ⟨_, _, q, _⟩; cases q))
  | some p => rw [show (some p : Option (List PyData × Sto)) = some (p.1, p.2) from rfl, wp_some]
theorem w_frz {i : Nat} {a : Val} (h : ρ[i]? = some (some a)) : wpS (sFrz i f ρ S) Q ↔ wp (frz1 a S) fun x S1 => wpS (f (ρ.set i (some (.d x))) S1) Q := by
  unfold sFrz
  rw [h]
  show wpS (match frz1 a S with | some (x, S1) => f (ρ.set i (some (.d x))) S1 | none => none) Q ↔ _
  cases h2 : frz1 a S with
  | none => exact nn (by first | exact wp_none | exact wpS_none) (by first | exact wp_none | exact wpS_none | (rintro ⟨_, _, q, _⟩; cases q))
  | some p => rw [show (some p : Option (PyData × Sto)) = some (p.1, p.2) from rfl, wp_some]
/-- a loop, by what holds ahead of each turn -/
theorem w_loop (I : Nat → Rho → Sto → Prop) {ds : List PyData} (h0 : I 0 ρ S)
    (hs : ∀ i d ρ S, ds[i]? = some d → I i ρ S → wp (G (.d d) ρ S) fun ρ1 S1 => wpS (f ρ1 S1) fun fl ρ2 S2 => match fl with
      | .nx => I (i + 1) ρ2 S2
      | .ct => I (i + 1) ρ2 S2
      | .bk => Q .nx ρ2 S2
      | .rt v => Q (.rt v) ρ2 S2)
    (hd : ∀ ρ S, I ds.length ρ S → Q .nx ρ S) : wpS (forL G f ds ρ S) Q := by
  have key : ∀ (n i : Nat) (ρ : Rho) (S : Sto), n = ds.length - i → i ≤ ds.length → I i ρ S → wpS (forL G f (ds.drop i) ρ S) Q := by
    intro n
    induction n with
    | zero =>
      intro i ρ S hn hi h
      have e : i = ds.length := by omega
      subst e
      rw [List.drop_length]
      exact ⟨_, _, _, rfl, hd ρ S h⟩
    | succ n ih =>
      intro i ρ S hn hi h
      have hlt : i < ds.length := by omega
      obtain ⟨ρ1, S1, e1, fl, ρ2, S2, e2, q⟩ := hs i ds[i] ρ S (List.getElem?_eq_getElem hlt) h
      rw [List.drop_eq_getElem_cons hlt]
      show wpS (forL G f (ds[i] :: ds.drop (i + 1)) ρ S) Q
      rw [forL]
      simp only [e1, e2]
      cases fl with
      | nx => exact ih (i + 1) ρ2 S2 (by omega) hlt q
      | ct => exact ih (i + 1) ρ2 S2 (by omega) hlt q
      | bk => exact ⟨_, _, _, rfl, q⟩
      | rt v => exact ⟨_, _, _, rfl, q⟩
  have := key ds.length 0 ρ S (by omega) (Nat.zero_le _) h0
  rw [List.drop_zero] at this
  exact this
/-- a comprehension, by what holds ahead of each turn -/
theorem w_lcL (I : Nat → List Val → Sto → Prop) {ds : List PyData} {R : List Val → Sto → Prop} (h0 : I 0 [] S)
    (hs : ∀ i d acc S, ds[i]? = some d → I i acc S → wp (G (.d d) ρ S) fun ρ1 S1 => wp (t ρ1 S1) fun b S2 => (b = true → wp (e ρ1 S2) fun v S3 => I (i + 1) (acc ++ [v]) S3) ∧ (b = false → I (i + 1) acc S2))
    (hd : ∀ acc S, I ds.length acc S → R acc S) : wp (lcL G t e ρ ds S) R := by
  have key : ∀ (n i : Nat) (acc : List Val) (S : Sto), n = ds.length - i → i ≤ ds.length → I i acc S → wp (lcL G t e ρ (ds.drop i) S) fun vs S' => R (acc ++ vs) S' := by
    intro n
    induction n with
    | zero =>
      intro i acc S hn hi h
      have e : i = ds.length := by omega
      subst e
      rw [List.drop_length]
      exact ⟨[], S, rfl, by show R (acc ++ []) S; rw [List.append_nil]; exact hd acc S h⟩
    | succ n ih =>
      intro i acc S hn hi h
      have hlt : i < ds.length := by omega
      obtain ⟨ρ1, S1, e1, b, S2, e2, q1, q2⟩ := hs i ds[i] acc S (List.getElem?_eq_getElem hlt) h
      rw [List.drop_eq_getElem_cons hlt]
      cases b with
      | true =>
        obtain ⟨v, S3, e3, q⟩ := q1 rfl
        obtain ⟨vs, S4, e4, q4⟩ := ih (i + 1) (acc ++ [v]) S3 (by omega) hlt q
        refine ⟨v :: vs, S4, ?_, ?_⟩
        · rw [lcL]
          simp only [e1, e2, e3, e4]
        · rw [List.append_assoc] at q4
          exact q4
      | false =>
        obtain ⟨vs, S4, e4, q4⟩ := ih (i + 1) acc S2 (by omega) hlt (q2 rfl)
        refine ⟨vs, S4, ?_, q4⟩
        rw [lcL]
        simp only [e1, e2, e4]
  have := key ds.length 0 [] S (by omega) (Nat.zero_le _) h0
  rw [List.drop_zero] at this
  exact this
theorem w_lc {md : Md} {fi : If} {vs : List Nat} : wp (eLc md fi G t e vs ρ S) R ↔ wp (fi ρ S) fun ds S1 => ds.length < sizeLine ∧ wp (lcL G t e (wipeR ρ vs) ds S1) fun xs S2 => wp (alloc md xs S2) R := by
  unfold eLc
  cases h : fi ρ S with
  | none => constructor <;> rintro ⟨_, _, q, _⟩ <;> cases q
  | some p =>
    obtain ⟨ds, S1⟩ := p
    rw [wp_some]
    by_cases hz : ds.length < sizeLine
    · simp only [hz, if_true, true_and]
      cases h2 : lcL G t e (wipeR ρ vs) ds S1 with
      | none => exact nn wp_none wp_none
      | some p =>
        obtain ⟨a, S1⟩ := p
        rw [wp_some]
    · simp only [hz, if_false, false_and]
      constructor
      · rintro ⟨_, _, q, _⟩; cases q
      · exact fun h => h.elim
theorem w_var {i : Nat} {v : Val} (h : ρ[i]? = some (some v)) : eVar i ρ S = some (v, S) := by
  unfold eVar
  rw [h]
theorem w_c {x : PyData} : eC x ρ S = some (.d x, S) := rfl
theorem w_bin {g : Val → Val → Sto → Option (Val × Sto)} : eBin g e1 e2 ρ S = bnd (e1 ρ S) fun a S1 => bnd (e2 ρ S1) fun b S2 => g a b S2 := rfl
theorem w_aNil : aNil ρ S = some ([], S) := rfl
theorem w_aCons : aCons e af ρ S = bnd (e ρ S) fun a S1 => bnd (af ρ S1) fun as S2 => some (a :: as, S2) := rfl
theorem w_cb {g : List Val → Sto → Option (Val × Sto)} : eCB g af ρ S = bnd (af ρ S) g := rfl
theorem w_call {n : Nat} {φ : List Val → Sto → Option (Val × Sto)} : eCall n φ af ρ S = bnd (af ρ S) fun as S1 => if as.length = n then φ as S1 else none := rfl
theorem w_tst : tst e ρ S = bnd (e ρ S) fun a S1 => match a with | .d (.bool b) => some (b, S1) | _ => none := rfl
theorem w_not : fNot t ρ S = bnd (t ρ S) fun a S1 => some (!a, S1) := rfl
theorem w_and : fAnd t1 t2 ρ S = bnd (t1 ρ S) fun a S1 => if a = true then t2 ρ S1 else some (false, S1) := rfl
theorem w_or : fOr t1 t2 ρ S = bnd (t1 ρ S) fun a S1 => if a = true then some (true, S1) else t2 ρ S1 := rfl
theorem w_eif : eIf t e1 e2 ρ S = bnd (t ρ S) fun c S1 => if c = true then e1 ρ S1 else e2 ρ S1 := rfl
theorem w_frzE : eFrz e ρ S = bnd (e ρ S) fun a S1 => (frz1 a S1).map fun p => (.d p.1, p.2) := by
  unfold eFrz
  congr
  funext a S1
  cases frz1 a S1 <;> rfl
theorem w_lst {md : Md} : eLst md af ρ S = bnd (af ρ S) fun as S1 => if as.length ≤ sizeLine then alloc md as S1 else none := rfl
theorem w_tup : eTup af ρ S = bnd (af ρ S) fun as S1 => if as.length ≤ sizeLine then mkT as S1 else none := rfl
end
/-- a def's call, from its body -/
theorem w_fn {nN j : Nat} {fb : Sf} {as : List Val} {S : Sto} {R : Val → Sto → Prop} (h : wpS (fb (initR nN as) S) fun fl _ S1 => ∃ r S' T, (fl = .rt r ∨ (fl = .nx ∧ r = .d .none)) ∧ S1 = S' ++ T ∧ S'.length = S.length + j ∧ Keep S S' r ∧ R r S') : wp (φof nN j fb as S) R := by
  obtain ⟨fl, ρ, S1, e, r, S', T, hf, rfl, hl, hk, q⟩ := h
  rcases hf with rfl | ⟨rfl, rfl⟩
  · exact ⟨r, S', φof_eq e hl hk, q⟩
  · exact ⟨_, S', φof_nx e hl hk, q⟩

/-! ### equations of the operators on plain values -/
section
variable {ρ : Rho} {S : Sto} {md : Md} {i j : Int} {x y : PyData} {s1 s2 : Str}
theorem q_addI : gAdd md (.d (.int i)) (.d (.int j)) S = some (.d (.int (i + j)), S) := rfl
theorem q_sub : gSub (.d (.int i)) (.d (.int j)) S = some (.d (.int (i - j)), S) := rfl
theorem q_mod (h : 0 < j) : gMod (.d (.int i)) (.d (.int j)) S = some (.d (.int (i % j)), S) := by
  show (if decide (0 < j) = true then _ else _) = _
  rw [if_pos (decide_eq_true h)]
theorem q_div (h : 0 < j ∧ j < 1073741824) : gDiv (.d (.int i)) (.d (.int j)) S = some (.d (.int (i / j)), S) := by
  show (if decide (0 < j ∧ j < 1073741824) = true then _ else _) = _
  rw [if_pos (decide_eq_true h)]
theorem q_mulI (h : (-(2 ^ 64) < i ∧ i < 2 ^ 64) ∨ (-(2 ^ 64) < j ∧ j < 2 ^ 64)) : gMul md (.d (.int i)) (.d (.int j)) S = some (.d (.int (i * j)), S) := by
  unfold gMul alt2 gMulI gI
  simp only [decide_eq_true h, if_true]
theorem q_pow (h : 0 ≤ j ∧ j ≤ 1000000 ∧ i.natAbs < 2 ^ 64) : gPow (.d (.int i)) (.d (.int j)) S = some (.d (.int (i ^ j.toNat)), S) := by
  show (if decide (0 ≤ j ∧ j ≤ 1000000 ∧ i.natAbs < 2 ^ 64) = true then _ else _) = _
  rw [if_pos (decide_eq_true h)]
theorem q_lt : gLtI (.d (.int i)) (.d (.int j)) S = some (.d (.bool (decide (i < j))), S) := rfl
theorem q_gt : gGtI (.d (.int i)) (.d (.int j)) S = some (.d (.bool (decide (j < i))), S) := rfl
theorem q_ge : gGeI (.d (.int i)) (.d (.int j)) S = some (.d (.bool (decide (j ≤ i))), S) := rfl
theorem q_le : gLe (.d (.int i)) (.d (.int j)) S = some (.d (.bool (decide (i ≤ j))), S) := rfl
theorem q_eq (h1 : x.plain = true) (h2 : y.plain = true) (h3 : min x.depth y.depth ≤ 60) : gEq (.d x) (.d y) S = some (.d (.bool (PyData.eqv x y)), S) := by
  unfold gEq
  simp only [look_d, dEqv, h1, h2, decide_eq_true h3, Bool.and_self, if_true, Option.map]
theorem q_ne (h1 : x.plain = true) (h2 : y.plain = true) (h3 : min x.depth y.depth ≤ 60) : gNe (.d x) (.d y) S = some (.d (.bool (!PyData.eqv x y)), S) := by
  unfold gNe
  simp only [look_d, dEqv, h1, h2, decide_eq_true h3, Bool.and_self, if_true, Option.map]
theorem q_eqI : gEq (.d (.int i)) (.d (.int j)) S = some (.d (.bool (decide (i = j))), S) := by
  rw [q_eq rfl rfl (by show min 0 0 ≤ 60; decide)]
  show some (Val.d (.bool (i == j)), S) = _
  rw [show (i == j) = decide (i = j) from rfl]
theorem q_neI : gNe (.d (.int i)) (.d (.int j)) S = some (.d (.bool (!decide (i = j))), S) := by
  rw [q_ne rfl rfl (by show min 0 0 ≤ 60; decide)]
  rfl
theorem q_eqB {a b : Bool} : gEq (.d (.bool a)) (.d (.bool b)) S = some (.d (.bool (a == b)), S) := q_eq rfl rfl (by show min 0 0 ≤ 60; decide)
theorem q_neB {a b : Bool} : gNe (.d (.bool a)) (.d (.bool b)) S = some (.d (.bool (!(a == b))), S) := q_ne rfl rfl (by show min 0 0 ≤ 60; decide)
theorem q_eqS : gEq (.d (.str s1)) (.d (.str s2)) S = some (.d (.bool (s1 == s2)), S) := q_eq rfl rfl (by show min 0 0 ≤ 60; decide)
theorem q_neS : gNe (.d (.str s1)) (.d (.str s2)) S = some (.d (.bool (!(s1 == s2))), S) := q_ne rfl rfl (by show min 0 0 ≤ 60; decide)
theorem q_is : gIs false (.d x) (.d .none) S = some (.d (.bool (isNo x)), S) := by
  show some (Val.d (.bool (xor false (isNo x))), S) = _
  rw [Bool.false_xor]
theorem q_isnot : gIs true (.d x) (.d .none) S = some (.d (.bool (!isNo x)), S) := by
  show some (Val.d (.bool (xor true (isNo x))), S) = _
  rw [Bool.true_xor]
theorem q_abs : gAbs [.d (.int i)] S = some (.d (.int (if i < 0 then -i else i)), S) := rfl
theorem q_max : gMax2 [.d (.int i), .d (.int j)] S = some (.d (.int (if j > i then j else i)), S) := rfl
theorem q_min : gMin2 [.d (.int i), .d (.int j)] S = some (.d (.int (if j < i then j else i)), S) := rfl
theorem q_intI : gInt [.d (.int i)] S = some (.d (.int i), S) := rfl
theorem q_intB {b : Bool} : gInt [.d (.bool b)] S = some (.d (.int (if b then 1 else 0)), S) := rfl
theorem q_divmod (h : 0 < j ∧ j < 1073741824) : gDivmod [.d (.int i), .d (.int j)] S = some (.d (.tuple [.int (i / j), .int (i % j)]), S) := by
  unfold gDivmod
  simp only [if_pos h]
theorem q_lenL {ds : List PyData} : gLen [.d (.list ds)] S = some (.d (.int ds.length), S) := by
  simp only [gLen, viewL, viewS, List.length_map]
theorem q_lenT {ds : List PyData} : gLen [.d (.tuple ds)] S = some (.d (.int ds.length), S) := rfl
theorem q_lenC {k : Nat} {xs : List Val} (h : S[k]? = some (.lst xs)) : gLen [.c k] S = some (.d (.int xs.length), S) := by
  simp only [gLen, viewL, viewS, h]
theorem q_lenS (h : s1.length ≤ sizeLine) : gLen [.d (.str s1)] S = some (.d (.int s1.length), S) := by
  simp only [gLen, if_pos h]
theorem q_ixL {ds : List PyData} : gIx (.d (.list ds)) (.d (.int i)) S = (atI (ds.map Val.d) i).map fun x => (x, S) := rfl
theorem q_ixT {ds : List PyData} : gIx (.d (.tuple ds)) (.d (.int i)) S = (atI (ds.map Val.d) i).map fun x => (x, S) := rfl
theorem q_ixC {k : Nat} {xs : List Val} (h : S[k]? = some (.lst xs)) : gIx (.c k) (.d (.int i)) S = (atI xs i).map fun x => (x, S) := by
  simp only [gIx, viewQ, viewL, viewS, h]
theorem q_gN {k : Nat} {a : Val} : gN k a ρ S = some (ρ.set k (some a), S) := rfl
theorem q_gTu {n : Nat} {r : Gs} {ds : List PyData} (h : ds.length = n) : gTu n r (.d (.tuple ds)) ρ S = r (ds.map .d) ρ S := by
  simp only [gTu, if_pos h]
theorem q_gsNil : gsNil [] ρ S = some (ρ, S) := rfl
theorem q_gsCons {g : Gf} {r : Gs} {a : Val} {as : List Val} : gsCons g r (a :: as) ρ S = match g a ρ S with
    | some (ρ1, S1) => r as ρ1 S1
    | none => none := rfl
theorem w_gsCons {g : Gf} {r : Gs} {a : Val} {as : List Val} {Q : Rho → Sto → Prop} : wp (gsCons g r (a :: as) ρ S) Q ↔ wp (g a ρ S) fun ρ1 S1 => wp (r as ρ1 S1) Q := by
  rw [q_gsCons]
  cases g a ρ S with
  | none => constructor <;> rintro ⟨_, _, q, _⟩ <;> cases q
  | some p => rw [show (some p : Option (Rho × Sto)) = some (p.1, p.2) from rfl, wp_some]
theorem w_gSub2 {fo fi : Ef} {v : Val} {Q : Rho → Sto → Prop} : wp (gSub2 fo fi v ρ S) Q ↔ wp (fo ρ S) fun o S1 => wp (fi ρ S1) fun i S2 => ∃ S3, setIx o i v S2 = some S3 ∧ Q ρ S3 := by
  unfold gSub2
  cases h : fo ρ S with
  | none => constructor <;> rintro ⟨_, _, q, _⟩ <;> cases q
  | some p =>
    rw [show (some p : Option (Val × Sto)) = some (p.1, p.2) from rfl, wp_some]
    cases h2 : fi ρ p.2 with
    | none => simp only [h2]; constructor <;> rintro ⟨_, _, q, _⟩ <;> cases q
    | some q =>
      rw [show (some q : Option (Val × Sto)) = some (q.1, q.2) from rfl, wp_some]
      simp only [h2]
      cases h3 : setIx p.1 q.1 v q.2 with
      | none =>
        constructor
        · rintro ⟨_, _, q, _⟩; cases q
        · rintro ⟨_, q, _⟩; cases q
      | some S3 =>
        refine wp_some.trans ⟨fun h => ⟨S3, rfl, h⟩, ?_⟩
        rintro ⟨_, q, h⟩
        cases q
        exact h
theorem q_setC {k : Nat} {xs : List Val} {v : Val} {n : Nat} (h : S[k]? = some (.lst xs)) (hn : ixN xs.length i = some n) : setIx (.c k) (.d (.int i)) v S = some (S.set k (.lst (xs.set n v))) := by
  simp only [setIx, h, hn]
theorem q_frzD : frz1 (.d x) S = some (x, S) := rfl
theorem q_frzC {k : Nat} {ds : List PyData} (h : S[k]? = some (.lst (ds.map .d))) : frz1 (.c k) S = some (.list ds, S.set k (.frz (.list ds))) := by
  simp only [frz1, h, unD_d, Option.map]
theorem q_iR1 {fs : Af} (h : fs ρ S = some ([.d (.int j)], S)) (hj : -(2 ^ 62) ≤ j ∧ j < 2 ^ 62) : iR1 fs ρ S = some (rngD 0 j.toNat, S) := by
  unfold iR1
  simp only [h, small62, decide_eq_true hj, if_true]
theorem w_iR1 {fs : Af} {Q : List PyData → Sto → Prop} (h : wp (fs ρ S) fun as S1 => ∃ j : Int, as = [.d (.int j)] ∧ (-(2 ^ 62) ≤ j ∧ j < 2 ^ 62) ∧ Q (rngD 0 j.toNat) S1) : wp (iR1 fs ρ S) Q := by
  obtain ⟨as, S1, e, j, rfl, hj, q⟩ := h
  refine ⟨_, _, ?_, q⟩
  unfold iR1
  simp only [e, small62, decide_eq_true hj, if_true]
theorem w_iR2 {fs : Af} {Q : List PyData → Sto → Prop} (h : wp (fs ρ S) fun as S1 => ∃ i j : Int, as = [.d (.int i), .d (.int j)] ∧ (-(2 ^ 62) ≤ i ∧ i < 2 ^ 62) ∧ (-(2 ^ 62) ≤ j ∧ j < 2 ^ 62) ∧ Q (rngD i (j - i).toNat) S1) : wp (iR2 fs ρ S) Q := by
  obtain ⟨as, S1, e, i, j, rfl, hi, hj, q⟩ := h
  refine ⟨_, _, ?_, q⟩
  unfold iR2
  simp only [e, small62, decide_eq_true hi, decide_eq_true hj, and_self, if_true]
theorem w_iEn {fs : Af} {Q : List PyData → Sto → Prop} (h : wp (fs ρ S) fun as S1 => ∃ ds, as = [.d (.list ds)] ∧ Q (enumD 0 ds) S1) : wp (iEn fs ρ S) Q := by
  obtain ⟨as, S1, e, ds, rfl, q⟩ := h
  refine ⟨_, _, ?_, q⟩
  unfold iEn
  simp only [e]
theorem w_iZp {fs : Af} {Q : List PyData → Sto → Prop} (h : wp (fs ρ S) fun as S1 => ∃ ds es, as = [.d (.list ds), .d (.list es)] ∧ Q (zipD ds es) S1) : wp (iZp fs ρ S) Q := by
  obtain ⟨as, S1, e, ds, es, rfl, q⟩ := h
  refine ⟨_, _, ?_, q⟩
  unfold iZp
  simp only [e]
theorem w_iSq {f : Ef} {Q : List PyData → Sto → Prop} (h : wp (f ρ S) fun a S1 => ∃ ds, itemsD a = some ds ∧ Q ds S1) : wp (iSq f ρ S) Q := by
  obtain ⟨a, S1, e, ds, h1, q⟩ := h
  refine ⟨_, _, ?_, q⟩
  unfold iSq
  simp only [e, h1]
theorem q_sumD (ns : List Int) : gSum [.d (.list (ns.map .int))] S = some (.d (.int ns.sum), S) := by
  unfold gSum
  simp only [lookIs_d, Option.map]
theorem q_allD (ns : List Bool) : gAll [.d (.list (ns.map .bool))] S = some (.d (.bool (ns.all id)), S) := by
  unfold gAll
  simp only [lookBs_d, Option.map]
theorem q_anyD (ns : List Bool) : gAny [.d (.list (ns.map .bool))] S = some (.d (.bool (ns.any id)), S) := by
  unfold gAny
  simp only [lookBs_d, Option.map]
theorem q_slL {ds : List PyData} {lo hi : Option Int} : gSl .D (.d (.list ds)) lo hi S = some (.d (.list (cutG ds lo hi)), S) := by
  have e : cutG (ds.map Val.d) lo hi = (cutG ds lo hi).map Val.d := by
    unfold cutG
    rw [List.length_map, List.map_take, List.map_drop]
  simp only [gSl, viewL, viewS, e, alloc_D]
theorem q_slS {ns : List Int} {lo hi : Option Int} : gSl .D (.s ns) lo hi S = some (.d (.list ((cutG ns lo hi).map .int)), S) := by
  have e : cutG (ns.map fun i => Val.d (.int i)) lo hi = ((cutG ns lo hi).map PyData.int).map Val.d := by
    unfold cutG
    rw [List.length_map, List.map_map, List.map_take, List.map_drop]
    rfl
  simp only [gSl, viewL, e, alloc_D]
theorem w_oNo : oNo ρ S = some (none, S) := rfl
theorem w_oSo {f : Ef} : oSo f ρ S = bnd (f ρ S) fun a S1 => match a with | .d (.int i) => some (some i, S1) | _ => none := rfl
theorem w_eSl {fa : Ef} {fl fh : Of} : eSl md fa fl fh ρ S = bnd (fa ρ S) fun a S1 => bnd (fl ρ S1) fun l S2 => bnd (fh ρ S2) fun u S3 => gSl md a l u S3 := rfl
theorem w_isi {Ts : List String} {fa : Ef} : gIsi Ts fa ρ S = bnd (fa ρ S) fun a S1 => match look S1 a with | some d => some (.d (.bool (Ts.any fun T => isT d T)), S1) | none => none := rfl
theorem w_eAnd {f g : Ef} : eAnd f g ρ S = bnd (f ρ S) fun a S1 => match a with | .d (.bool true) => g ρ S1 | .d (.bool false) => some (.d (.bool false), S1) | _ => none := rfl
theorem w_eOr {f g : Ef} : eOr f g ρ S = bnd (f ρ S) fun a S1 => match a with | .d (.bool false) => g ρ S1 | .d (.bool true) => some (.d (.bool true), S1) | _ => none := rfl
theorem w_eNot {f : Ef} : eNot f ρ S = bnd (f ρ S) fun a S1 => match a with | .d (.bool c) => some (.d (.bool !c), S1) | _ => none := rfl
theorem w_eNeg {f : Ef} : eNeg f ρ S = bnd (f ρ S) fun a S1 => match a with | .d (.int i) => some (.d (.int (-i)), S1) | _ => none := rfl
theorem w_chain {g g' : Val → Val → Sto → Option (Val × Sto)} {fa fb fc : Ef} : eChain g g' fa fb fc ρ S = bnd (fa ρ S) fun a S1 => bnd (fb ρ S1) fun b S2 => bnd (g a b S2) fun r S3 => match r with
  | .d (.bool true) => bnd (fc ρ S3) fun c S4 => g' b c S4
  | .d (.bool false) => some (.d (.bool false), S3)
  | _ => none := rfl
theorem w_mt {g : Val → List Val → Sto → Option (Val × Sto)} {fo : Ef} {fs : Af} : eMt g fo fs ρ S = bnd (fo ρ S) fun o S1 => if (viewL S1 o).isSome = true then bnd (fs ρ S1) fun as S2 => g o as S2 else none := rfl
theorem q_append {k : Nat} {xs : List Val} {y : Val} (h : S[k]? = some (.lst xs)) (hz : xs.length < sizeLine) : gAppend (.c k) [y] S = some (.d .none, S.set k (.lst (xs ++ [y]))) := by
  simp only [gAppend, h, if_pos hz]
theorem q_insert {k : Nat} {xs : List Val} {y : Val} (h : S[k]? = some (.lst xs)) (hz : xs.length < sizeLine ∧ 0 ≤ i ∧ i < 2 ^ 63) : gInsert (.c k) [.d (.int i), y] S = some (.d .none, S.set k (.lst (xs.take i.toNat ++ [y] ++ xs.drop i.toNat))) := by
  simp only [gInsert, h, if_pos hz]
end
end QL

namespace QL
open PySem PySem.Spec PyProof.Rows L2
/-! ### the box of draws -/
def boxC (a b c : Int) : Cell := .lst [.d (.int a), .d (.int b), .d (.int c)]
def Bx (N : Nat) (S : Sto) (k : Nat) : Prop := ∃ a b c : Int, S[k]? = some (boxC a b c) ∧ 0 ≤ a ∧ 0 ≤ b ∧ b < 2147483648 ∧ 0 ≤ c ∧ c ≤ N
/-- same length, the box alone may differ -/
structure Dr (k N : Nat) (S S' : Sto) : Prop where
  len : S'.length = S.length
  same : ∀ j, j ≠ k → S'[j]? = S[j]?
  box : Bx N S' k
/-- the same, and new cells behind -/
structure Gr (k N : Nat) (S S' : Sto) : Prop where
  len : S.length ≤ S'.length
  same : ∀ j, j < S.length → j ≠ k → S'[j]? = S[j]?
  box : Bx N S' k
structure Ex (S S' : Sto) : Prop where
  len : S.length ≤ S'.length
  same : ∀ j, j < S.length → S'[j]? = S[j]?
section
variable {k N M : Nat} {S S1 S2 S' : Sto}
theorem Bx.lt (h : Bx N S k) : k < S.length := by
  obtain ⟨a, b, c, h, _⟩ := h
  exact (List.getElem?_eq_some_iff.mp h).1
theorem Bx.mono (h : Bx N S k) (e : N ≤ M) : Bx M S k := by
  obtain ⟨a, b, c, h, h1, h2, h3, h4, h5⟩ := h
  exact ⟨a, b, c, h, h1, h2, h3, h4, by omega⟩
theorem Dr.gr (h : Dr k N S S') : Gr k N S S' := ⟨Nat.le_of_eq h.len.symm, fun j _ hj => h.same j hj, h.box⟩
theorem Dr.refl (h : Bx N S k) : Dr k N S S := ⟨rfl, fun _ _ => rfl, h⟩
theorem Gr.refl (h : Bx N S k) : Gr k N S S := ⟨Nat.le_refl _, fun _ _ _ => rfl, h⟩
theorem Dr.trans (h : Dr k N S S1) (g : Dr k M S1 S2) : Dr k M S S2 := ⟨g.len.trans h.len, fun j hj => (g.same j hj).trans (h.same j hj), g.box⟩
theorem Gr.trans (h : Gr k N S S1) (g : Gr k M S1 S2) : Gr k M S S2 := ⟨Nat.le_trans h.len g.len, fun j hl hj => (g.same j (Nat.lt_of_lt_of_le hl h.len) hj).trans (h.same j hl hj), g.box⟩
theorem Gr.dr (h : Gr k N S S1) (g : Dr k M S1 S2) : Gr k M S S2 := h.trans g.gr
theorem Gr.mono (h : Gr k N S S') (e : N ≤ M) : Gr k M S S' := ⟨h.len, h.same, h.box.mono e⟩
theorem Dr.mono (h : Dr k N S S') (e : N ≤ M) : Dr k M S S' := ⟨h.len, h.same, h.box.mono e⟩
theorem Ex.refl (S : Sto) : Ex S S := ⟨Nat.le_refl _, fun _ _ => rfl⟩
theorem Ex.trans (h : Ex S S1) (g : Ex S1 S2) : Ex S S2 := ⟨Nat.le_trans h.len g.len, fun j hl => (g.same j (Nat.lt_of_lt_of_le hl h.len)).trans (h.same j hl)⟩
theorem Ex.new (S : Sto) (c : Cell) : Ex S (S ++ [c]) := ⟨by simp, fun j hj => List.getElem?_append_left hj⟩
theorem Ex.bx (h : Ex S S') (b : Bx N S k) : Bx N S' k := by
  have hl := b.lt
  obtain ⟨x, y, z, e, r⟩ := b
  exact ⟨x, y, z, (h.same k hl).trans e, r⟩
theorem Gr.ex (h : Gr k N S S1) (g : Ex S1 S2) : Gr k N S S2 := ⟨Nat.le_trans h.len g.len, fun j hl hj => (g.same j (Nat.lt_of_lt_of_le hl h.len)).trans (h.same j hl hj), g.bx h.box⟩
/-- a change of a cell that is new -/
theorem Gr.setN (h : Gr k N S S1) {j : Nat} (hj : S.length ≤ j) (hb : k < S.length) (c : Cell) : Gr k N S (S1.set j c) := by
  refine ⟨by rw [List.length_set]; exact h.len, fun i hi hk => ?_, ?_⟩
  · rw [List.getElem?_set_ne (by omega)]
    exact h.same i hi hk
  · obtain ⟨x, y, z, e, r⟩ := h.box
    exact ⟨x, y, z, by rw [List.getElem?_set_ne (by omega)]; exact e, r⟩
theorem Ex.setN (h : Ex S S1) {j : Nat} (hj : S.length ≤ j) (c : Cell) : Ex S (S1.set j c) :=
  ⟨by rw [List.length_set]; exact h.len, fun i hi => by rw [List.getElem?_set_ne (by omega)]; exact h.same i hi⟩
theorem get_new (S : Sto) (c : Cell) : (S ++ [c])[S.length]? = some c := by simp
theorem get_set {j : Nat} {c c0 : Cell} (h : S[j]? = some c0) : (S.set j c)[j]? = some c := by
  rw [List.getElem?_set]
  simp only [if_true, (List.getElem?_eq_some_iff.mp h).1]
theorem Dr.get {j : Nat} {c : Cell} (h : Dr k N S S') (hj : j ≠ k) (e : S[j]? = some c) : S'[j]? = some c := (h.same j hj).trans e
theorem Dr.set (hb : Bx M S k) {a b c : Int} (h1 : 0 ≤ a) (h2 : 0 ≤ b) (h3 : b < 2147483648) (h4 : 0 ≤ c) (h5 : c ≤ N) : Dr k N S (S.set k (boxC a b c)) := by
  obtain ⟨x, y, z, e, _⟩ := hb
  exact ⟨List.length_set, fun j hj => List.getElem?_set_ne (Ne.symm hj), a, b, c, get_set e, h1, h2, h3, h4, h5⟩
theorem clv_mem {xs : List Val} {n : Nat} (h : ∃ ds : List PyData, xs = ds.map .d) : ∀ x ∈ xs, ClV n x := by
  obtain ⟨ds, rfl⟩ := h
  intro x hx
  obtain ⟨d, _, rfl⟩ := List.mem_map.mp hx
  trivial
theorem Gr.cut (h : Gr k N S S1) (hk : k < S.length) : Dr k N S (S1.take S.length) := by
  refine ⟨by rw [List.length_take]; have := h.len; omega, fun j hj => ?_, ?_⟩
  · by_cases hl : j < S.length
    · rw [List.getElem?_take_of_lt hl]
      exact h.same j hl hj
    · rw [List.getElem?_eq_none (by rw [List.length_take]; omega), List.getElem?_eq_none (by omega)]
  · obtain ⟨x, y, z, e, r⟩ := h.box
    exact ⟨x, y, z, by rw [List.getElem?_take_of_lt hk]; exact e, r⟩
theorem Dr.keep (h : Dr k N S S') (x : PyData) : Keep S S' (.d x) := by
  refine ⟨Nat.le_of_eq h.len.symm, fun j c e => ?_, trivial⟩
  by_cases hj : j = k
  · subst hj
    right
    obtain ⟨a, b, d, e2, _⟩ := h.box
    rw [e2] at e
    cases e
    exact clv_mem ⟨[.int a, .int b, .int d], rfl⟩
  · left
    rw [← h.same j hj]
    exact e
theorem Ex.cut (h : Ex S S1) : S1.take S.length = S := by
  refine List.ext_getElem? fun j => ?_
  by_cases hl : j < S.length
  · rw [List.getElem?_take_of_lt hl]
    exact h.same j hl
  · rw [List.getElem?_eq_none (by rw [List.length_take]; omega), List.getElem?_eq_none (by omega)]
/-- a def that draws and gives data -/
theorem w_fnD {nN : Nat} {fb : Sf} {as : List Val} {R : PyData → Prop} (hb : Bx M S k) (h : wpS (fb (initR nN as) S) fun fl _ S1 => ∃ x, (fl = .rt (.d x) ∨ (fl = .nx ∧ x = .none)) ∧ Gr k N S S1 ∧ R x) : wp (φof nN 0 fb as S) fun r S' => ∃ x, r = .d x ∧ Dr k N S S' ∧ R x := by
  refine w_fn (wpS_mono h fun fl ρ S1 ⟨x, hf, g, hr⟩ => ?_)
  have g := g
  have hc : Dr k N S (S1.take S.length) := g.cut hb.lt
  refine ⟨.d x, S1.take S.length, S1.drop S.length, ?_, (List.take_append_drop _ _).symm, hc.len, hc.keep x, x, rfl, hc, hr⟩
  rcases hf with q | ⟨q1, q2⟩
  · exact .inl q
  · exact .inr ⟨q1, by rw [q2]⟩
/-- a def that draws nothing and gives data -/
theorem w_fnP {nN : Nat} {fb : Sf} {as : List Val} {R : PyData → Prop} (h : wpS (fb (initR nN as) S) fun fl _ S1 => ∃ x, (fl = .rt (.d x) ∨ (fl = .nx ∧ x = .none)) ∧ Ex S S1 ∧ R x) : wp (φof nN 0 fb as S) fun r S' => ∃ x, r = .d x ∧ S' = S ∧ R x := by
  refine w_fn (wpS_mono h fun fl ρ S1 ⟨x, hf, g, hr⟩ => ?_)
  refine ⟨.d x, S, S1.drop S.length, ?_, by rw [← g.cut, List.length_take, Nat.min_eq_left g.len]; exact (List.take_append_drop _ _).symm, rfl, Keep.same S x, x, rfl, rfl, hr⟩
  rcases hf with q | ⟨q1, q2⟩
  · exact .inl q
  · exact .inr ⟨q1, by rw [q2]⟩
theorem w_fnE {nN : Nat} {fb : Sf} {as : List Val} {x : PyData} (h : wpS (fb (initR nN as) S) fun fl _ S1 => (fl = .rt (.d x) ∨ (fl = .nx ∧ x = .none)) ∧ Ex S S1) : φof nN 0 fb as S = some (.d x, S) := by
  obtain ⟨r, S', e, y, rfl, rfl, rfl⟩ := w_fnP (R := fun y => y = x) (wpS_mono h fun fl ρ S1 ⟨h1, h2⟩ => ⟨x, h1, h2, rfl⟩)
  exact e
/-- a def that gives a new list -/
theorem w_fnC {nN : Nat} {fb : Sf} {as : List Val} {R : List PyData → Prop} (h : wpS (fb (initR nN as) S) fun fl _ S1 => fl = .rt (.c S.length) ∧ ∃ ds, S1 = S ++ [.lst (ds.map .d)] ∧ R ds) : wp (φof nN 1 fb as S) fun r S' => r = .c S.length ∧ ∃ ds, S' = S ++ [.lst (ds.map .d)] ∧ R ds := by
  refine w_fn (wpS_mono h fun fl ρ S1 ⟨hf, ds, e, hr⟩ => ?_)
  refine ⟨_, S1, [], .inl hf, by simp, by rw [e]; simp, ⟨by rw [e]; simp, fun j c q => ?_, by rw [e]; show S.length < _; simp⟩, rfl, ds, e, hr⟩
  rw [e] at q
  by_cases hj : j < S.length
  · rw [List.getElem?_append_left hj] at q
    exact .inl q
  · rw [List.getElem?_append_right (by omega)] at q
    have : c = .lst (ds.map .d) := by
      cases hz : j - S.length with
      | zero => rw [hz] at q; cases q; rfl
      | succ n => rw [hz] at q; cases q
    subst this
    exact .inr (clv_mem ⟨ds, rfl⟩)

/-! ### operators, with what they ask -/
variable {md : Md} {i j : Int} {Q : Val → Sto → Prop}
theorem w_mulI : wp (gMul md (.d (.int i)) (.d (.int j)) S) Q ↔ ((-18446744073709551616 < i ∧ i < 18446744073709551616) ∨ (-18446744073709551616 < j ∧ j < 18446744073709551616)) ∧ Q (.d (.int (i * j))) S := by
  by_cases h : (-(2 ^ 64) < i ∧ i < 2 ^ 64) ∨ (-(2 ^ 64) < j ∧ j < 2 ^ 64)
  · rw [q_mulI h, wp_some]
    exact ⟨fun q => ⟨h, q⟩, fun q => q.2⟩
  · refine nn ?_ fun q => h q.1
    rintro ⟨a, S1, e, _⟩
    unfold gMul alt2 gMulI gI at e
    simp only [decide_eq_false h] at e
    cases e
theorem w_modI : wp (gMod (.d (.int i)) (.d (.int j)) S) Q ↔ 0 < j ∧ Q (.d (.int (i % j))) S := by
  by_cases h : 0 < j
  · rw [q_mod h, wp_some]
    exact ⟨fun q => ⟨h, q⟩, fun q => q.2⟩
  · refine nn ?_ fun q => h q.1
    rintro ⟨a, S1, e, _⟩
    unfold gMod gI at e
    simp only [decide_eq_false h] at e
    cases e
theorem w_divI : wp (gDiv (.d (.int i)) (.d (.int j)) S) Q ↔ (0 < j ∧ j < 1073741824) ∧ Q (.d (.int (i / j))) S := by
  by_cases h : 0 < j ∧ j < 1073741824
  · rw [q_div h, wp_some]
    exact ⟨fun q => ⟨h, q⟩, fun q => q.2⟩
  · refine nn ?_ fun q => h q.1
    rintro ⟨a, S1, e, _⟩
    unfold gDiv gI at e
    simp only [decide_eq_false h] at e
    cases e
theorem w_divmod : wp (gDivmod [.d (.int i), .d (.int j)] S) Q ↔ (0 < j ∧ j < 1073741824) ∧ Q (.d (.tuple [.int (i / j), .int (i % j)])) S := by
  by_cases h : 0 < j ∧ j < 1073741824
  · rw [q_divmod h, wp_some]
    exact ⟨fun q => ⟨h, q⟩, fun q => q.2⟩
  · refine nn ?_ fun q => h q.1
    rintro ⟨a, S1, e, _⟩
    simp only [gDivmod, if_neg h] at e
    cases e
theorem w_pow : wp (gPow (.d (.int i)) (.d (.int j)) S) Q ↔ (0 ≤ j ∧ j ≤ 1000000 ∧ i.natAbs < 18446744073709551616) ∧ Q (.d (.int (i ^ j.toNat))) S := by
  by_cases h : 0 ≤ j ∧ j ≤ 1000000 ∧ i.natAbs < 2 ^ 64
  · rw [q_pow h, wp_some]
    exact ⟨fun q => ⟨h, q⟩, fun q => q.2⟩
  · refine nn ?_ fun q => h q.1
    rintro ⟨a, S1, e, _⟩
    unfold gPow gI at e
    simp only [decide_eq_false h] at e
    cases e
theorem wp_ite {α : Type} {p : Prop} [Decidable p] {x y : Option (α × Sto)} {Q : α → Sto → Prop} : wp (if p then x else y) Q ↔ (p → wp x Q) ∧ (¬ p → wp y Q) := by
  by_cases h : p <;> simp [h]
theorem w_at {xs : List Val} : wp ((atI xs i).map fun x => (x, S)) Q ↔ ∃ x, atI xs i = some x ∧ Q x S := by
  cases h : atI xs i with
  | none =>
    refine nn wp_none ?_
    rintro ⟨_, e, _⟩
    cases e
  | some x =>
    show wp (some (x, S)) Q ↔ _
    rw [wp_some]
    refine ⟨fun q => ⟨x, rfl, q⟩, ?_⟩
    rintro ⟨_, e, q⟩
    cases e
    exact q
theorem atI_map {α β : Type} {f : α → β} {xs : List α} : atI (xs.map f) i = (atI xs i).map f := by
  unfold atI ixN
  rw [List.length_map]
  split
  · split
    · show (xs.map f)[_]? = _
      rw [List.getElem?_map]
      rfl
    · rfl
  · split
    · show (xs.map f)[_]? = _
      rw [List.getElem?_map]
      rfl
    · rfl
theorem w_atD {ds : List PyData} : wp ((atI (ds.map Val.d) i).map fun x => (x, S)) Q ↔ ∃ x, atI ds i = some x ∧ Q (.d x) S := by
  rw [w_at, atI_map]
  constructor
  · rintro ⟨_, e, q⟩
    cases h : atI ds i with
    | none => rw [h] at e; cases e
    | some x =>
      rw [h] at e
      cases e
      exact ⟨x, rfl, q⟩
  · rintro ⟨x, e, q⟩
    exact ⟨_, by rw [e]; rfl, q⟩
theorem at_0 {α : Type} {a : α} {r : List α} : atI (a :: r) 0 = some a := by
  unfold atI ixN
  rw [if_pos (by decide), if_pos (by simp only [List.length_cons]; omega)]
  rfl
theorem at_1 {α : Type} {a b : α} {r : List α} : atI (a :: b :: r) 1 = some b := by
  unfold atI ixN
  rw [if_pos (by decide), if_pos (by simp only [List.length_cons]; omega)]
  rfl
theorem at_2 {α : Type} {a b c : α} {r : List α} : atI (a :: b :: c :: r) 2 = some c := by
  unfold atI ixN
  rw [if_pos (by decide), if_pos (by simp only [List.length_cons]; omega)]
  rfl
theorem at_all {α : Type} {xs : List α} {P : α → Prop} {i : Int} (h0 : 0 ≤ i) (h : i < xs.length) (hp : ∀ x ∈ xs, P x) : ∃ x, atI xs i = some x ∧ P x := by
  refine ⟨xs[i.toNat]'(by omega), ?_, hp _ (List.getElem_mem _)⟩
  unfold atI ixN
  rw [if_pos h0, if_pos h]
  exact List.getElem?_eq_getElem (by omega)
theorem at_in {α : Type} {xs : List α} {i : Int} (h0 : 0 ≤ i) (h : i < xs.length) : atI xs i = some (xs[i.toNat]'(by omega)) := by
  unfold atI ixN
  rw [if_pos h0, if_pos h]
  exact List.getElem?_eq_getElem (by omega)
theorem set_ix {k : Nat} {xs : List Val} {n : Nat} {v : Val} (h : S[k]? = some (.lst xs)) (hn : n < xs.length) : setIx (.c k) (.d (.int n)) v S = some (S.set k (.lst (xs.set n v))) := by
  refine q_setC h ?_
  unfold ixN
  rw [if_pos (by omega), if_pos (by omega)]
  rfl
theorem set_0 {k : Nat} {a v : Val} {r : List Val} (h : S[k]? = some (.lst (a :: r))) : setIx (.c k) (.d (.int 0)) v S = some (S.set k (.lst (v :: r))) := set_ix (n := 0) h (by simp)
theorem set_1 {k : Nat} {a b v : Val} {r : List Val} (h : S[k]? = some (.lst (a :: b :: r))) : setIx (.c k) (.d (.int 1)) v S = some (S.set k (.lst (a :: v :: r))) := set_ix (n := 1) h (by simp)
theorem set_2 {k : Nat} {a b c v : Val} {r : List Val} (h : S[k]? = some (.lst (a :: b :: c :: r))) : setIx (.c k) (.d (.int 2)) v S = some (S.set k (.lst (a :: b :: v :: r))) := set_ix (n := 2) h (by simp)
theorem get_setX {j : Nat} {c : Cell} (h : ∃ c0, S[j]? = some c0) : (S.set j c)[j]? = some c := by
  obtain ⟨c0, h⟩ := h
  exact get_set h
theorem q_gTu2 {r : Gs} {x y : PyData} {ρ : Rho} : gTu 2 r (.d (.tuple [x, y])) ρ S = r [.d x, .d y] ρ S := rfl
theorem q_gTu3 {r : Gs} {x y z : PyData} {ρ : Rho} : gTu 3 r (.d (.tuple [x, y, z])) ρ S = r [.d x, .d y, .d z] ρ S := rfl
theorem q_mkT2 {x y : PyData} : mkT [.d x, .d y] S = some (.d (.tuple [x, y]), S) := rfl
theorem q_mkT3 {x y z : PyData} : mkT [.d x, .d y, .d z] S = some (.d (.tuple [x, y, z]), S) := rfl
theorem q_mkT1 {x : PyData} : mkT [.d x] S = some (.d (.tuple [x]), S) := rfl
theorem q_mkT0 : mkT [] S = some (.d (.tuple []), S) := rfl
theorem q_alD0 : alloc .D [] S = some (.d (.list []), S) := rfl
theorem q_alD1 {x : PyData} : alloc .D [.d x] S = some (.d (.list [x]), S) := rfl
theorem q_alD2 {x y : PyData} : alloc .D [.d x, .d y] S = some (.d (.list [x, y]), S) := rfl
theorem q_alD3 {x y z : PyData} : alloc .D [.d x, .d y, .d z] S = some (.d (.list [x, y, z]), S) := rfl
theorem q_alD4 {x y z u : PyData} : alloc .D [.d x, .d y, .d z, .d u] S = some (.d (.list [x, y, z, u]), S) := rfl
theorem q_tst {α : Type} {b : Bool} {f : Bool → Option α} {g : Val → Option α} : (match Val.d (.bool b) with | .d (.bool b) => f b | x => g x) = f b := rfl
end
end QL

namespace QL
open PySem PySem.Spec PyProof.Rows L2
section
variable {S S1 : Sto} {ρ : Rho} {fs : Af} {f : Ef} {Q : List PyData → Sto → Prop} {md : Md} {R : Val → Sto → Prop}
def kR1 (Q : List PyData → Sto → Prop) : List Val → Sto → Prop
  | [.d (.int j)], S1 => (-4611686018427387904 ≤ j ∧ j < 4611686018427387904) ∧ Q (rngD 0 j.toNat) S1
  | _, _ => False
def kR2 (Q : List PyData → Sto → Prop) : List Val → Sto → Prop
  | [.d (.int i), .d (.int j)], S1 => (-4611686018427387904 ≤ i ∧ i < 4611686018427387904) ∧ (-4611686018427387904 ≤ j ∧ j < 4611686018427387904) ∧ Q (rngD i (j - i).toNat) S1
  | _, _ => False
def kEn (Q : List PyData → Sto → Prop) : List Val → Sto → Prop
  | [.d (.list ds)], S1 => Q (enumD 0 ds) S1
  | _, _ => False
def kZp (Q : List PyData → Sto → Prop) : List Val → Sto → Prop
  | [.d (.list ds), .d (.list es)], S1 => Q (zipD ds es) S1
  | [.d (.tuple ds), .d (.tuple es)], S1 => Q (zipD ds es) S1
  | _, _ => False
theorem kR1_eq {j : Int} : kR1 Q [.d (.int j)] S = ((-4611686018427387904 ≤ j ∧ j < 4611686018427387904) ∧ Q (rngD 0 j.toNat) S) := rfl
theorem kR2_eq {i j : Int} : kR2 Q [.d (.int i), .d (.int j)] S = ((-4611686018427387904 ≤ i ∧ i < 4611686018427387904) ∧ (-4611686018427387904 ≤ j ∧ j < 4611686018427387904) ∧ Q (rngD i (j - i).toNat) S) := rfl
theorem kEn_eq {ds : List PyData} : kEn Q [.d (.list ds)] S = Q (enumD 0 ds) S := rfl
theorem kZp_T {ds es : List PyData} : kZp Q [.d (.tuple ds), .d (.tuple es)] S = Q (zipD ds es) S := rfl
theorem kZp_eq {ds es : List PyData} : kZp Q [.d (.list ds), .d (.list es)] S = Q (zipD ds es) S := rfl
theorem x_iR1 : wp (iR1 fs ρ S) Q ↔ wp (fs ρ S) (kR1 Q) := by
  constructor
  · rintro ⟨ds, S1, e, q⟩
    unfold iR1 at e
    split at e
    · rename_i j S2 h
      split at e
      · rename_i hj
        cases e
        exact ⟨_, _, h, of_decide_eq_true hj, q⟩
      · cases e
    · cases e
  · refine fun h => w_iR1 (wp_mono h fun as S1 q => ?_)
    unfold kR1 at q
    split at q
    · exact ⟨_, rfl, q.1, q.2⟩
    · exact q.elim
theorem x_iR2 : wp (iR2 fs ρ S) Q ↔ wp (fs ρ S) (kR2 Q) := by
  constructor
  · rintro ⟨ds, S1, e, q⟩
    unfold iR2 at e
    split at e
    · rename_i i j S2 h
      split at e
      · rename_i hj
        cases e
        exact ⟨_, _, h, of_decide_eq_true hj.1, of_decide_eq_true hj.2, q⟩
      · cases e
    · cases e
  · refine fun h => w_iR2 (wp_mono h fun as S1 q => ?_)
    unfold kR2 at q
    split at q
    · exact ⟨_, _, rfl, q.1, q.2.1, q.2.2⟩
    · exact q.elim
theorem x_iEn : wp (iEn fs ρ S) Q ↔ wp (fs ρ S) (kEn Q) := by
  constructor
  · rintro ⟨ds, S1, e, q⟩
    unfold iEn at e
    split at e
    · rename_i ds S2 h
      cases e
      exact ⟨_, _, h, q⟩
    · cases e
  · refine fun h => w_iEn (wp_mono h fun as S1 q => ?_)
    unfold kEn at q
    split at q
    · exact ⟨_, rfl, q⟩
    · exact q.elim
theorem x_iZp : wp (iZp fs ρ S) Q ↔ wp (fs ρ S) (kZp Q) := by
  constructor
  · rintro ⟨ds, S1, e, q⟩
    unfold iZp at e
    split at e
    · rename_i ds es S2 h
      cases e
      exact ⟨_, _, h, q⟩
    · rename_i ds es S2 h
      cases e
      exact ⟨_, _, h, q⟩
    · cases e
  · rintro ⟨as, S1, e, q⟩
    unfold kZp at q
    split at q
    · exact ⟨_, _, by unfold iZp; rw [e], q⟩
    · exact ⟨_, _, by unfold iZp; rw [e], q⟩
    · exact q.elim
theorem x_iSq : wp (iSq f ρ S) Q ↔ wp (f ρ S) fun a S1 => ∃ ds, itemsD a = some ds ∧ Q ds S1 := by
  constructor
  · rintro ⟨ds, S1, e, q⟩
    unfold iSq at e
    split at e
    · rename_i a S2 h
      split at e
      · rename_i ds' h2
        cases e
        exact ⟨_, _, h, _, h2, q⟩
      · cases e
    · cases e
  · exact fun h => w_iSq h
theorem it_L {ds : List PyData} : itemsD (.d (.list ds)) = some ds := rfl
theorem it_T {ds : List PyData} : itemsD (.d (.tuple ds)) = some ds := rfl
theorem rng_len {lo : Int} {n : Nat} : (rngD lo n).length = n := by unfold rngD; simp
theorem rng_get {lo : Int} {n i : Nat} {d : PyData} (h : (rngD lo n)[i]? = some d) : i < n ∧ d = .int (lo + i) := by
  have hl := (List.getElem?_eq_some_iff.mp h).1
  rw [rng_len] at hl
  unfold rngD at h
  rw [List.getElem?_map, List.getElem?_range hl] at h
  cases h
  exact ⟨hl, rfl⟩
theorem en_get {ds : List PyData} {i n : Nat} {d : PyData} (h : (enumD n ds)[i]? = some d) : ∃ x, ds[i]? = some x ∧ d = .tuple [.int ((n + i : Nat) : Int), x] := by
  have hl := (List.getElem?_eq_some_iff.mp h).1
  rw [enumD_len] at hl
  refine ⟨ds[i], List.getElem?_eq_getElem hl, ?_⟩
  have := enumD_get n ds i ds[i] (List.getElem?_eq_getElem hl)
  rw [h] at this
  cases this
  rfl
theorem zp_get {ds es : List PyData} {i : Nat} {d : PyData} (h : (zipD ds es)[i]? = some d) : ∃ x y, ds[i]? = some x ∧ es[i]? = some y ∧ d = .tuple [x, y] := by
  have hl := (List.getElem?_eq_some_iff.mp h).1
  rw [zipD_len] at hl
  have h1 : ds[i]? = some (ds[i]'(by omega)) := List.getElem?_eq_getElem (by omega)
  have h2 : es[i]? = some (es[i]'(by omega)) := List.getElem?_eq_getElem (by omega)
  refine ⟨_, _, h1, h2, ?_⟩
  have := zipD_get ds es i _ _ h1 h2
  rw [h] at this
  cases this
  rfl
theorem map_get {α β : Type} {f : α → β} {xs : List α} {i : Nat} {y : β} (h : (xs.map f)[i]? = some y) : ∃ x, xs[i]? = some x ∧ y = f x := by
  rw [List.getElem?_map] at h
  cases q : xs[i]? with
  | none => rw [q] at h; cases h
  | some x => rw [q] at h; cases h; exact ⟨x, rfl, rfl⟩
def kPar (i j : Nat) (ρ : Rho) (Q : Fl → Rho → Sto → Prop) : List Val → Sto → Prop
  | [a, b], S => Q .nx ((ρ.set i (some a)).set j (some b)) S
  | _, _ => False
theorem kPar_eq {i j : Nat} {Q : Fl → Rho → Sto → Prop} {a b : Val} : kPar i j ρ Q [a, b] S = Q .nx ((ρ.set i (some a)).set j (some b)) S := rfl
theorem x_par {i j : Nat} {af : Af} {Q : Fl → Rho → Sto → Prop} : wpS (sPar i j af ρ S) Q ↔ wp (af ρ S) (kPar i j ρ Q) := by
  rw [w_par]
  constructor
  · intro h
    refine wp_mono h fun vs S1 z => ?_
    obtain ⟨a, b, rfl, q⟩ := z
    exact q
  · intro h
    refine wp_mono h fun vs S1 q => ?_
    unfold kPar at q
    split at q
    · exact ⟨_, _, rfl, q⟩
    · exact q.elim
/-- a cut between two statements -/
theorem w_cut (M : Rho → Sto → Prop) {f g : Sf} {Q : Fl → Rho → Sto → Prop} (h : wpS (f ρ S) fun fl ρ1 S1 => fl = .nx ∧ M ρ1 S1) (q : ∀ ρ1 S1, M ρ1 S1 → wpS (g ρ1 S1) Q) : wpS (sSeq f g ρ S) Q := by
  refine w_seq.mpr (wpS_mono h fun fl ρ1 S1 z => ?_)
  obtain ⟨rfl, m⟩ := z
  exact q ρ1 S1 m
def kFor (G : Gf) (f : Sf) (ds : List PyData) (Q : Fl → Rho → Sto → Prop) : Fl → Rho → Sto → Prop
  | .nx, ρ, S => wpS (forL G f ds ρ S) Q
  | .ct, ρ, S => wpS (forL G f ds ρ S) Q
  | .bk, ρ, S => Q .nx ρ S
  | .rt v, ρ, S => Q (.rt v) ρ S
section
variable {G : Gf} {g : Sf} {ds : List PyData} {d : PyData} {Q : Fl → Rho → Sto → Prop} {v : Val}
theorem kFor_nx : kFor G g ds Q .nx ρ S = wpS (forL G g ds ρ S) Q := rfl
theorem kFor_ct : kFor G g ds Q .ct ρ S = wpS (forL G g ds ρ S) Q := rfl
theorem kFor_bk : kFor G g ds Q .bk ρ S = Q .nx ρ S := rfl
theorem kFor_rt : kFor G g ds Q (.rt v) ρ S = Q (.rt v) ρ S := rfl
theorem w_forN : wpS (forL G g [] ρ S) Q ↔ Q .nx ρ S := wpS_some
theorem w_forC : wpS (forL G g (d :: ds) ρ S) Q ↔ wp (G (.d d) ρ S) fun ρ1 S1 => wpS (g ρ1 S1) (kFor G g ds Q) := by
  rw [forL]
  cases h : G (.d d) ρ S with
  | none => exact nn wpS_none wp_none
  | some p =>
    obtain ⟨ρ1, S1⟩ := p
    rw [wp_some]
    simp only []
    cases h2 : g ρ1 S1 with
    | none => exact nn wpS_none wpS_none
    | some q =>
      obtain ⟨fl, ρ2, S2⟩ := q
      rw [wpS_some]
      cases fl with
      | nx => exact Iff.rfl
      | ct => exact Iff.rfl
      | bk => exact wpS_some
      | rt v => exact wpS_some
end
def bif2 {α : Type} (r : Val) (x y : Option α) : Option α := match r with
  | .d (.bool true) => x
  | .d (.bool false) => y
  | _ => none
theorem bif2_d {α : Type} {b : Bool} {x y : Option α} : bif2 (.d (.bool b)) x y = if b = true then x else y := by
  cases b <;> rfl
theorem x_eAnd {f g : Ef} : eAnd f g ρ S = bnd (f ρ S) fun a S1 => bif2 a (g ρ S1) (some (.d (.bool false), S1)) := rfl
theorem x_eOr {f g : Ef} : eOr f g ρ S = bnd (f ρ S) fun a S1 => bif2 a (some (.d (.bool true), S1)) (g ρ S1) := by
  unfold eOr
  congr
  funext a S1
  unfold bif2
  split <;> first | rfl | skip
  rename_i h1 h2
  split <;> first | rfl | (exact absurd rfl h1) | (exact absurd rfl h2) | skip
theorem x_chain {g g' : Val → Val → Sto → Option (Val × Sto)} {fa fb fc : Ef} : eChain g g' fa fb fc ρ S = bnd (fa ρ S) fun a S1 => bnd (fb ρ S1) fun b S2 => bnd (g a b S2) fun r S3 => bif2 r (bnd (fc ρ S3) fun c S4 => g' b c S4) (some (.d (.bool false), S3)) := rfl
/-! ### slices -/
section
variable {α : Type} {xs : List α} {n m : Int}
theorem cut_to (h : 0 ≤ n) : cutG xs none (some n) = xs.take n.toNat := by
  unfold cutG HT.sIx
  simp only [if_neg (show ¬ n < 0 by omega), Nat.sub_zero, List.drop_zero]
  rw [List.take_eq_take_iff]
  omega
theorem cut_from (h : 0 ≤ n) : cutG xs (some n) none = xs.drop n.toNat := by
  unfold cutG HT.sIx
  simp only [if_neg (show ¬ n < 0 by omega)]
  by_cases hl : n.toNat ≤ xs.length
  · rw [Nat.min_eq_left hl, List.take_of_length_le (by rw [List.length_drop]; omega)]
  · rw [Nat.min_eq_right (by omega), List.drop_eq_nil_of_le (Nat.le_refl _), List.drop_eq_nil_of_le (show xs.length ≤ n.toNat by omega), List.take_nil]
theorem cut_all : cutG xs none none = xs := by
  unfold cutG HT.sIx
  simp
theorem cut_ft (h : 0 ≤ n) (h2 : 0 ≤ m) : cutG xs (some n) (some m) = (xs.take m.toNat).drop n.toNat := by
  unfold cutG HT.sIx
  simp only [if_neg (show ¬ n < 0 by omega), if_neg (show ¬ m < 0 by omega)]
  rw [List.drop_take]
  by_cases hl : n.toNat ≤ xs.length
  · rw [Nat.min_eq_left hl, List.take_eq_take_iff]
    simp only [List.length_drop]
    omega
  · rw [Nat.min_eq_right (show xs.length ≤ n.toNat by omega), List.drop_eq_nil_of_le (Nat.le_refl _), List.drop_eq_nil_of_le (show xs.length ≤ n.toNat by omega), List.take_nil, List.take_nil]
end
theorem x_slL {ds : List PyData} {lo hi : Option Int} : gSl .D (.d (.list ds)) lo hi S = some (.d (.list (cutG ds lo hi)), S) := q_slL
theorem q_listD {ds : List PyData} : gList .D [.d (.list ds)] S = some (.d (.list ds), S) := by
  unfold gList
  simp only [viewQ, viewL, viewS]
  exact alloc_D ds S
theorem q_listN {ds : List PyData} : gList .N [.d (.list ds)] S = some (.c S.length, S ++ [.lst (ds.map .d)]) := by
  unfold gList
  simp only [viewQ, viewL, viewS, alloc_N]
theorem q_listNT {ds : List PyData} : gList .N [.d (.tuple ds)] S = some (.c S.length, S ++ [.lst (ds.map .d)]) := by
  unfold gList
  simp only [viewQ, alloc_N]
theorem q_listDT {ds : List PyData} : gList .D [.d (.tuple ds)] S = some (.d (.list ds), S) := by
  unfold gList
  simp only [viewQ]
  exact alloc_D ds S
theorem q_tupL {ds : List PyData} : gTuple [.d (.list ds)] S = some (.d (.tuple ds), S) := by
  unfold gTuple
  simp only [viewL, viewS]
  exact mkT_d ds S
theorem q_tupT {ds : List PyData} : gTuple [.d (.tuple ds)] S = some (.d (.tuple ds), S) := rfl
theorem w_frzM {i : Nat} {g : Sf} {Q : Fl → Rho → Sto → Prop} : wpS (sFrz i g ρ S) Q ↔ wp (match ρ[i]? with | some (some a) => frz1 a S | _ => none) fun x S1 => wpS (g (ρ.set i (some (.d x))) S1) Q := by
  cases h : ρ[i]? with
  | none =>
    refine nn ?_ wp_none
    unfold sFrz
    rw [h]
    exact wpS_none
  | some o =>
    cases o with
    | none =>
      refine nn ?_ wp_none
      unfold sFrz
      rw [h]
      exact wpS_none
    | some a => exact w_frz h
theorem q_frzN {ds : List PyData} {k : Nat} (h : S[k]? = some (.lst (ds.map .d))) : frz1 (.c k) S = some (.list ds, S.set k (.frz (.list ds))) := q_frzC h
end
end QL

namespace QL
open PySem PySem.Spec PyProof.Rows L2
/-! ### small plain data -/
structure Tm (n w : Nat) (d : PyData) : Prop where
  plain : d.plain = true
  nodict : d.hasDict = false
  shows : d.showable = true
  short : d.leavesShort 22 = true
  dep : d.depth ≤ n
  wt : d.weight ≤ w
section
variable {n w n' w' : Nat} {d : PyData} {ds : List PyData} {S : Sto}
theorem Tm.mono (h : Tm n w d) (a : n ≤ n') (b : w ≤ w') : Tm n' w' d := ⟨h.plain, h.nodict, h.shows, h.short, Nat.le_trans h.dep a, Nat.le_trans h.wt b⟩
theorem Tm.non : Tm n w .none := ⟨rfl, rfl, rfl, rfl, Nat.zero_le _, Nat.zero_le _⟩
theorem Tm.bl {b : Bool} : Tm n w (.bool b) := ⟨rfl, rfl, rfl, rfl, Nat.zero_le _, Nat.zero_le _⟩
theorem Tm.int {i : Int} (h : i.natAbs < 100000000000000000000) (hw : 70 ≤ w) : Tm n w (.int i) := by
  have h2 : i.natAbs.log2 < 68 := by
    rcases Nat.eq_zero_or_pos i.natAbs with h0 | hp
    · rw [h0]; decide
    · exact (Nat.log2_lt (Nat.ne_of_gt hp)).mpr (Nat.lt_trans h (by decide))
  refine ⟨rfl, rfl, by simp only [PyData.showable, decide_eq_true_eq]; omega, ?_, Nat.zero_le _, ?_⟩
  · simp only [PyData.leavesShort]
    refine decide_eq_true ?_
    rw [PyData.shown_int, PySem.ofString_length]
    have := int_text_length_le10 (a := i) (k := 20) (by decide) (by simpa using h)
    omega
  · simp only [PyData.weight]
    split
    · exact Nat.zero_le _
    · omega
theorem Tm.all (h : ∀ d ∈ ds, Tm n w d) : PyData.plainAll ds = true ∧ PyData.hasDictAll ds = false ∧ PyData.showableAll ds = true ∧ PyData.leavesShortAll 22 ds = true ∧ PyData.depthAll ds ≤ n ∧ PyData.weightAll ds ≤ ds.length * (w + 1) := by
  induction ds with
  | nil => exact ⟨rfl, rfl, rfl, rfl, Nat.zero_le _, Nat.zero_le _⟩
  | cons d r ih =>
    obtain ⟨h1, h2, h3, h4, h5, h6⟩ := ih fun x hx => h x (List.mem_cons_of_mem _ hx)
    have t := h d (List.mem_cons_self ..)
    refine ⟨?_, ?_, ?_, ?_, ?_, ?_⟩
    · simp only [PyData.plainAll, t.plain, h1, Bool.and_self]
    · simp only [PyData.hasDictAll, t.nodict, h2, Bool.or_self]
    · simp only [PyData.showableAll, t.shows, h3, Bool.and_self]
    · simp only [PyData.leavesShortAll, t.short, h4, Bool.and_self]
    · simp only [PyData.depthAll]
      exact Nat.max_le.mpr ⟨t.dep, h5⟩
    · simp only [PyData.weightAll, List.length_cons, Nat.succ_mul]
      have := t.wt
      omega
theorem Tm.lst (h : ∀ d ∈ ds, Tm n w d) (hn : n + 1 ≤ n') (hw : ds.length * (w + 1) ≤ w') : Tm n' w' (.list ds) := by
  obtain ⟨h1, h2, h3, h4, h5, h6⟩ := Tm.all h
  exact ⟨by simpa only [PyData.plain], by simpa only [PyData.hasDict], by simpa only [PyData.showable], by simpa only [PyData.leavesShort], by simp only [PyData.depth]; omega, by simp only [PyData.weight]; omega⟩
theorem Tm.tup (h : ∀ d ∈ ds, Tm n w d) (hn : n + 1 ≤ n') (hw : ds.length * (w + 1) ≤ w') : Tm n' w' (.tuple ds) := by
  obtain ⟨h1, h2, h3, h4, h5, h6⟩ := Tm.all h
  exact ⟨by simpa only [PyData.plain], by simpa only [PyData.hasDict], by simpa only [PyData.showable], by simpa only [PyData.leavesShort], by simp only [PyData.depth]; omega, by simp only [PyData.weight]; omega⟩
theorem Tm.shownLe (h : Tm n w d) (hw : w ≤ 500000) : d.shown.length ≤ sizeLine := by
  have := PyData.shown_le 22 (by decide) d h.short
  have q : (22 + 2) * d.weight ≤ 24 * 500000 := Nat.mul_le_mul (Nat.le_refl _) (Nat.le_trans h.wt hw)
  rw [sizeLine_eq]
  omega
theorem x_strA {x : PyData} (h : Tm 60 500000 x) (hs : isSeq x = true) : gStrA [.d x] S = some (.d (.str x.shown), S) := by
  have e : gStr [.d x] S = none := by
    cases x <;> first | rfl | cases hs
  unfold gStrA altC
  rw [e]
  show gStrD [.d x] S = _
  unfold gStrD
  simp only [look_d]
  rw [if_pos ⟨hs, h.shows, h.nodict, h.dep, h.shownLe (Nat.le_refl _)⟩]
theorem q_eqT {x y : PyData} (h : Tm 60 w x) (h' : Tm 60 w' y) : gEq (.d x) (.d y) S = some (.d (.bool (PyData.eqv x y)), S) := q_eq h.plain h'.plain (by have := h.dep; omega)
theorem q_neT {x y : PyData} (h : Tm 60 w x) (h' : Tm 60 w' y) : gNe (.d x) (.d y) S = some (.d (.bool (!PyData.eqv x y)), S) := q_ne h.plain h'.plain (by have := h.dep; omega)
end
theorem x_inL {n w w' : Nat} {x : PyData} {ds : List PyData} {S : Sto} {neg : Bool} (h : Tm 60 w x) (h' : Tm n w' (.list ds)) : gIn neg (.d x) (.d (.list ds)) S = some (.d (.bool (xor neg (ds.any fun y => PyData.eqv y x))), S) := by
  have h1 : PyData.plainAll ds = true := by simpa only [PyData.plain] using h'.plain
  unfold gIn
  simp only [look_d, inD, h.plain, h1, Bool.and_self, Bool.true_and, decide_eq_true_eq]
  rw [if_pos (by have := h.dep; omega)]
  rfl
theorem x_inT {n w w' : Nat} {x : PyData} {ds : List PyData} {S : Sto} {neg : Bool} (h : Tm 60 w x) (h' : Tm n w' (.tuple ds)) : gIn neg (.d x) (.d (.tuple ds)) S = some (.d (.bool (xor neg (ds.any fun y => PyData.eqv y x))), S) := by
  have h1 : PyData.plainAll ds = true := by simpa only [PyData.plain] using h'.plain
  unfold gIn
  simp only [look_d, inD, h.plain, h1, Bool.and_self, Bool.true_and, decide_eq_true_eq]
  rw [if_pos (by have := h.dep; omega)]
  rfl
mutual
theorem eqv_refl : ∀ d : PyData, d.plain = true → PyData.eqv d d = true
  | .none, _ => rfl
  | .bool b, _ => by simp [PyData.eqv]
  | .int b, _ => by simp [PyData.eqv]
  | .str b, _ => by simp [PyData.eqv]
  | .list xs, h => by
    simp only [PyData.eqv]
    exact eqvAll_refl xs (by simpa only [PyData.plain] using h)
  | .tuple xs, h => by
    simp only [PyData.eqv]
    exact eqvAll_refl xs (by simpa only [PyData.plain] using h)
  | .dict _, h => by simp [PyData.plain] at h
theorem eqvAll_refl : ∀ ds : List PyData, PyData.plainAll ds = true → PyData.eqvAll ds ds = true
  | [], _ => rfl
  | d :: ds, h => by
    have h' : d.plain = true ∧ PyData.plainAll ds = true := by simpa only [PyData.plainAll, Bool.and_eq_true] using h
    simp only [PyData.eqvAll, eqv_refl d h'.1, eqvAll_refl ds h'.2, Bool.and_self]
end
theorem q_mulL1 {x : PyData} {S : Sto} : gMul .D (.d (.list [x])) (.d (.int 2)) S = some (.d (.list [x, x]), S) := by
  unfold gMul alt2 gMulI gI gRep
  simp only [viewS, List.map_cons, List.map_nil, List.length_cons, List.length_nil]
  rw [if_pos (by rw [sizeLine_eq]; decide)]
  exact alloc_D [x, x] S
/-! ### comprehensions without draws; all, any, sum -/
section
variable {S : Sto} {ρ : Rho} {ds : List PyData} {G : Gf} {e : Ef} {R : List Val → Sto → Prop}
theorem w_lcP (g : Nat → PyData → PyData) (h : ∀ i d, ds[i]? = some d → wp (G (.d d) ρ S) fun ρ1 S1 => wp (e ρ1 S1) fun v S2 => v = .d (g i d) ∧ S2 = S) (q : R ((ds.mapIdx g).map .d) S) : wp (lcL G fYes e ρ ds S) R := by
  refine w_lcL (fun i acc S1 => acc = ((ds.take i).mapIdx g).map .d ∧ S1 = S) ⟨by simp, rfl⟩ ?_ ?_
  · rintro i d acc S1 hd ⟨rfl, rfl⟩
    refine wp_mono (h i d hd) fun ρ1 S2 hw => wp_some.mpr ⟨fun _ => wp_mono hw ?_, fun z => nomatch z⟩
    rintro v S3 ⟨rfl, rfl⟩
    refine ⟨?_, rfl⟩
    have hl := (List.getElem?_eq_some_iff.mp hd).1
    rw [List.take_add_one, hd, List.mapIdx_append, List.map_append, List.length_take, Nat.min_eq_left (Nat.le_of_lt hl)]
    simp
  · rintro acc S1 ⟨rfl, rfl⟩
    rw [List.take_length]
    exact q
theorem w_lcM (g : PyData → PyData) (h : ∀ d ∈ ds, wp (G (.d d) ρ S) fun ρ1 S1 => wp (e ρ1 S1) fun v S2 => v = .d (g d) ∧ S2 = S) (q : R ((ds.map g).map .d) S) : wp (lcL G fYes e ρ ds S) R := by
  refine w_lcP (fun _ d => g d) (fun i d hd => h d (List.mem_of_getElem? hd)) ?_
  rw [show ds.mapIdx (fun _ d => g d) = ds.map g from List.ext_getElem (by simp) fun i h1 h2 => by simp]
  exact q
theorem w_lcX {α : Type} {xs : List α} {v : α → PyData} (g : α → PyData) (h : ∀ x ∈ xs, wp (G (.d (v x)) ρ S) fun ρ1 S1 => wp (e ρ1 S1) fun r S2 => r = .d (g x) ∧ S2 = S) (q : R ((xs.map g).map .d) S) : wp (lcL G fYes e ρ (xs.map v) S) R := by
  refine w_lcL (fun i acc S1 => acc = ((xs.take i).map g).map .d ∧ S1 = S) ⟨by simp, rfl⟩ ?_ ?_
  · rintro i d acc S1 hd ⟨rfl, rfl⟩
    obtain ⟨x, hx, rfl⟩ := map_get hd
    refine wp_mono (h x (List.mem_of_getElem? hx)) fun ρ1 S2 hw => wp_some.mpr ⟨fun _ => wp_mono hw ?_, fun z => nomatch z⟩
    rintro r S3 ⟨rfl, rfl⟩
    refine ⟨?_, rfl⟩
    rw [List.take_add_one, hx, List.map_append, List.map_append]
    simp
  · rintro acc S1 ⟨rfl, rfl⟩
    rw [List.length_map, List.take_length]
    exact q
theorem q_allT (h : ∀ d ∈ ds, d = .bool true) : gAll [.d (.list ds)] S = some (.d (.bool true), S) := by
  have e : ds = (ds.map fun _ => true).map PyData.bool := by
    rw [List.map_map]
    conv => lhs; rw [← List.map_id ds]
    exact List.map_congr_left fun d hd => h d hd
  rw [e, q_allD]
  simp
theorem q_sumF {α : Type} (xs : List α) (f : α → Int) : gSum [.d (.list (xs.map fun x => .int (f x)))] S = some (.d (.int (xs.map f).sum), S) := by
  have := q_sumD (S := S) (xs.map f)
  rw [List.map_map] at this
  exact this
end
end QL

namespace QL
open PySem PySem.Spec PyProof.Rows L2
section
variable {S : Sto} {ρ : Rho} {dy : Dy} {G : Gf} {t : Tf} {e f : Ef} {fs : Af} {md : Md} {R : List Val → Sto → Prop} {k : Nat} {ds : List PyData} {fj : Jf} {vs : List Nat} {Q : Val → Sto → Prop}
/-! ### walks over what may change, said -/
theorem x_lcD : wp (eLcD md fj G t e vs ρ S) Q ↔ wp (fj ρ S) fun dy S1 => wp (lcD dy G t e (wipeR ρ vs) fuelW 0 S1) fun xs S2 => wp (alloc md xs S2) Q := by
  unfold eLcD
  cases h : fj ρ S with
  | none => exact nn wp_none wp_none
  | some p =>
    obtain ⟨dy, S1⟩ := p
    rw [wp_some]
    simp only []
    cases h2 : lcD dy G t e (wipeR ρ vs) fuelW 0 S1 with
    | none => exact nn wp_none wp_none
    | some q =>
      obtain ⟨xs, S2⟩ := q
      rw [wp_some]
def kSq (Q : Dy → Sto → Prop) : Val → Sto → Prop := fun a S => (viewQ S a).isSome = true ∧ Q (dSeq a) S
theorem x_jSq {Q : Dy → Sto → Prop} : wp (jSq f ρ S) Q ↔ wp (f ρ S) (kSq Q) := by
  unfold jSq
  cases h : f ρ S with
  | none => exact nn wp_none wp_none
  | some p =>
    obtain ⟨a, S1⟩ := p
    rw [wp_some]
    unfold kSq
    by_cases hv : (viewQ S1 a).isSome = true
    · simp only [hv, if_true, true_and]
      exact wp_some
    · simp only [hv]
      exact nn wp_none (fun z => by simp at z)
/-- a comprehension without draws over items that stay -/
theorem w_lcDP {items : List Val} (g : Val → Val) (hd : ∀ i, dy S i = some items[i]?) (hl : items.length < 1000000) (h : ∀ x ∈ items, wp (G x ρ S) fun ρ1 S1 => wp (e ρ1 S1) fun v S2 => v = g x ∧ S2 = S) (q : R (items.map g) S) : wp (lcD dy G fYes e ρ fuelW 0 S) R := by
  have key : ∀ (n i : Nat), i + n = fuelW → i ≤ items.length → lcD dy G fYes e ρ n i S = some ((items.drop i).map g, S) := by
    intro n
    induction n with
    | zero =>
      intro i hi hl2
      have : fuelW = 1000000 := rfl
      omega
    | succ n ih =>
      intro i hi hl2
      rw [lcD, hd i]
      by_cases hlt : i < items.length
      · rw [List.getElem?_eq_getElem hlt]
        obtain ⟨ρ1, S1, e1, v, S2, e2, hv, hS⟩ := h items[i] (List.getElem_mem hlt)
        have e3 : fYes ρ1 S1 = some (true, S1) := rfl
        subst hS hv
        simp only [e1, e3, e2, ih (i + 1) (by omega) hlt]
        rw [List.drop_eq_getElem_cons hlt]
        rfl
      · have : i = items.length := by omega
        subst this
        rw [List.getElem?_eq_none (Nat.le_refl _), List.drop_length]
        rfl
  have := key fuelW 0 (Nat.zero_add _) (Nat.zero_le _)
  rw [this, wp_some, List.drop_zero]
  exact q
/-! ### zip of what may change -/
def jZ0 : List Val → Sto → Option (Dy × Sto)
  | [.d (.tuple ds), .d (.tuple es)], S1 => some ((fun _ i => some ((zipD ds es).map Val.d)[i]?), S1)
  | [a, b], S1 => if (viewQ S1 a).isSome = true ∧ isTu a = false ∧ (viewQ S1 b).isSome = true ∧ isTu b = false then some (dZp a b, S1) else none
  | _, _ => none
theorem x_jZp : jZp fs ρ S = bnd (fs ρ S) jZ0 := by
  unfold jZp bnd
  cases h : fs ρ S with
  | none => rfl
  | some p =>
    obtain ⟨as, S1⟩ := p
    simp only []
    unfold jZ0
    split <;> split <;> first | rfl | (simp_all; done) | skip
    all_goals simp_all
theorem jZ0_T {ds es : List PyData} : jZ0 [.d (.tuple ds), .d (.tuple es)] S = some ((fun _ i => some ((zipD ds es).map Val.d)[i]?), S) := rfl
theorem jZ0_c {xs es : List PyData} (h : S[k]? = some (.lst (xs.map .d))) : jZ0 [.c k, .d (.list es)] S = some (dZp (.c k) (.d (.list es)), S) := by
  have h1 : viewQ S (.c k) = some (xs.map .d) := by
    unfold viewQ viewL viewS
    simp only [h]
  unfold jZ0
  simp only [h1, show viewQ S (.d (.list es)) = some (es.map .d) from rfl, Option.isSome_some, isTu, and_self, if_true]
theorem jZ0_L {ds es : List PyData} : jZ0 [.d (.list ds), .d (.list es)] S = some (dZp (.d (.list ds)) (.d (.list es)), S) := rfl
theorem dZp_c {xs es : List PyData} (h : S[k]? = some (.lst (xs.map .d))) (i : Nat) : dZp (.c k) (.d (.list es)) S i = some ((zipD xs es).map Val.d)[i]? := by
  have h1 : viewQ S (.c k) = some (xs.map .d) := by
    unfold viewQ viewL viewS
    simp only [h]
  have h2 : viewQ S (.d (.list es)) = some (es.map .d) := rfl
  unfold dZp
  rw [h1, h2]
  simp only [List.getElem?_map]
  cases hx : xs[i]? with
  | none =>
    have : (zipD xs es)[i]? = none := by
      rw [List.getElem?_eq_none_iff] at *
      rw [zipD_len]
      omega
    rw [this]
    rfl
  | some x =>
    cases hy : es[i]? with
    | none =>
      have : (zipD xs es)[i]? = none := by
        rw [List.getElem?_eq_none_iff] at *
        rw [zipD_len]
        omega
      rw [this]
      rfl
    | some y =>
      rw [zipD_get xs es i x y hx hy]
      rfl
theorem dSeq_c {xs : List Val} (h : S[k]? = some (.lst xs)) (i : Nat) : dSeq (.c k) S i = some xs[i]? := by
  unfold dSeq viewQ viewL viewS
  simp only [h]
  rfl
theorem dSeq_d (i : Nat) : dSeq (.d (.list ds)) S i = some (ds.map Val.d)[i]? := rfl
end
end QL

namespace QW
open PySem PySem.Spec PyProof.Rows L2 QL
def topS (i : Nat) : Stmt := PySem.Challenge.pw_pickboard_k46_tracks_tick_by_tick.main.body.getD i (.Pass ⟨0, 0, 0, 0⟩)
abbrev s_is_number : Stmt := topS 1
theorem sc_is_number : FnScope ["thing"] ["thing"] (defScope s_is_number) := ⟨rfl, rfl, rfl, by decide +kernel, rfl, by decide +kernel, by decide +kernel⟩
noncomputable def f_is_number : Sf := (sRet (eAnd (gIsi ["int"] (eVar 0)) (eNot (gIsi ["bool"] (eVar 0)))))
noncomputable def p_is_number : List Val → Sto → Option (Val × Sto) := φof 1 0 f_is_number
abbrev s_way_between : Stmt := topS 2
theorem sc_way_between : FnScope ["one", "other"] ["one", "other"] (defScope s_way_between) := ⟨rfl, rfl, rfl, by decide +kernel, rfl, by decide +kernel, by decide +kernel⟩
noncomputable def f_way_between : Sf := (sRet (eCB gMax2 (aCons (eCB gAbs (aCons (eBin gSub (eBin gIx (eVar 0) (eC (.int 0))) (eBin gIx (eVar 1) (eC (.int 0)))) aNil)) (aCons (eCB gAbs (aCons (eBin gSub (eBin gIx (eVar 0) (eC (.int 1))) (eBin gIx (eVar 1) (eC (.int 1)))) aNil)) aNil))))
noncomputable def p_way_between : List Val → Sto → Option (Val × Sto) := φof 2 0 f_way_between
abbrev s_side_behind : Stmt := topS 3
theorem sc_side_behind : FnScope ["one", "other", "ticks"] ["one", "other", "ticks"] (defScope s_side_behind) := ⟨rfl, rfl, rfl, by decide +kernel, rfl, by decide +kernel, by decide +kernel⟩
noncomputable def f_side_behind : Sf := (sSeq (sIf (tst (eBin gLe (eVar 0) (eVar 1))) (sRet (eCB gMin2 (aCons (eVar 1) (aCons (eBin (gAdd .D) (eVar 0) (eVar 2)) aNil)))) sNil) (sRet (eCB gMax2 (aCons (eVar 1) (aCons (eBin gSub (eVar 0) (eVar 2)) aNil)))))
noncomputable def p_side_behind : List Val → Sto → Option (Val × Sto) := φof 3 0 f_side_behind
abbrev s_going_to : Stmt := topS 4
theorem sc_going_to : FnScope ["one", "other", "ticks"] ["one", "other", "ticks"] (defScope s_going_to) := ⟨rfl, rfl, rfl, by decide +kernel, rfl, by decide +kernel, by decide +kernel⟩
noncomputable def f_going_to : Sf := (sRet (eTup (aCons (eCall 3 p_side_behind (aCons (eBin gIx (eVar 0) (eC (.int 0))) (aCons (eBin gIx (eVar 1) (eC (.int 0))) (aCons (eVar 2) aNil)))) (aCons (eCall 3 p_side_behind (aCons (eBin gIx (eVar 0) (eC (.int 1))) (aCons (eBin gIx (eVar 1) (eC (.int 1))) (aCons (eVar 2) aNil)))) aNil))))
noncomputable def p_going_to : List Val → Sto → Option (Val × Sto) := φof 3 0 f_going_to
abbrev s_is_track : Stmt := topS 6
theorem sc_is_track : FnScope ["thing", "one", "other"] ["thing"] (defScope s_is_track) := ⟨rfl, rfl, rfl, by decide +kernel, rfl, by decide +kernel, by decide +kernel⟩
noncomputable def f_is_track : Sf := (sSeq (sIf (fOr (fNot (tst (gIsi ["list"] (eVar 0)))) (fOr (tst (eBin gEq (eVar 0) (eLst .D aNil))) (fNot (tst (eCB gAll (aCons (eLcD .D (jSq (eVar 0)) (gN 1) fYes (eCall 1 p_is_number (aCons (eVar 1) aNil)) [1]) aNil)))))) (sRet (eC (.bool false))) sNil) (sRet (eCB gAll (aCons (eLcD .D (jZp (aCons (eVar 0) (aCons (eSl .D (eVar 0) (oSo (eC (.int 1))) oNo) aNil))) (gTu 2 (gsN [1, 2])) fYes (eBin gLe (eCB gAbs (aCons (eBin gSub (eVar 1) (eVar 2)) aNil)) (eC (.int 1))) [1, 2]) aNil))))
noncomputable def p_is_track : List Val → Sto → Option (Val × Sto) := φof 3 0 f_is_track
abbrev s_track_by : Stmt := topS 7
theorem sc_track_by : FnScope ["places", "work", "found", "one", "other", "ticks"] ["places", "work"] (defScope s_track_by) := ⟨rfl, rfl, rfl, by decide +kernel, rfl, by decide +kernel, by decide +kernel⟩
noncomputable def f_track_by : Sf := (sSeq (sAsg (eBin (gMul .N) (eLst .D (aCons (eBin gIx (eBin gIx (eVar 0) (eC (.int 0))) (eC (.int 0))) aNil)) (eBin (gAdd .D) (eVar 1) (eC (.int 1)))) (gN 2)) (sSeq (sFor (iZp (aCons (eVar 0) (aCons (eSl .D (eVar 0) (oSo (eC (.int 1))) oNo) aNil))) (gTu 2 (gsCons (gN 3) (gsCons (gN 4) gsNil))) (sSeq (sExpr (eMt gExtend (eVar 2) (aCons (eLc .D (iR2 (aCons (eC (.int 1)) (aCons (eBin (gAdd .D) (eCall 2 p_way_between (aCons (eVar 3) (aCons (eVar 4) aNil))) (eC (.int 1))) aNil))) (gN 5) fYes (eBin gIx (eCall 3 p_going_to (aCons (eVar 3) (aCons (eVar 4) (aCons (eVar 5) aNil)))) (eC (.int 0))) [5]) aNil))) (sExpr (eMt gExtend (eVar 2) (aCons (eBin (gMul .D) (eLst .D (aCons (eBin gIx (eVar 4) (eC (.int 0))) aNil)) (eVar 1)) aNil))))) (sRet (eVar 2))))
noncomputable def p_track_by : List Val → Sto → Option (Val × Sto) := φof 6 1 f_track_by
abbrev s_law_box : Stmt := topS 9
theorem sc_law_box : FnScope ["_law_script", "_law_k", "_law_cell"] ["_law_script", "_law_k"] (defScope s_law_box) := ⟨rfl, rfl, rfl, by decide +kernel, rfl, by decide +kernel, by decide +kernel⟩
noncomputable def f_law_box : Sf := (sSeq (sAsg (eIf (tst (eBin gLtI (eVar 1) (eCB gLen (aCons (eVar 0) aNil)))) (eBin gIx (eVar 0) (eVar 1)) (eC (.int 0))) (gN 2)) (sRet (eLst .N (aCons (eBin (gMul .D) (eCB gAbs (aCons (eVar 2) aNil)) (eCB gInt (aCons (eBin gGeI (eCB gAbs (aCons (eVar 2) aNil)) (eBin gPow (eC (.int 10)) (eC (.int 18)))) aNil))) (aCons (eBin gMod (eBin (gMul .D) (eBin (gAdd .D) (eBin (gAdd .D) (eBin gMod (eVar 2) (eC (.int 2147483629))) (eBin (gMul .D) (eC (.int 15485863)) (eVar 1))) (eC (.int 37))) (eC (.int 48271))) (eC (.int 2147483647))) (aCons (eC (.int 0)) aNil))))))
noncomputable def p_law_box : List Val → Sto → Option (Val × Sto) := φof 3 1 f_law_box
abbrev s_law_take : Stmt := topS 10
theorem sc_law_take : FnScope ["_law_box_here", "_law_size", "_law_found", "_law_step", "_law_once", "_law_twice"] ["_law_box_here", "_law_size"] (defScope s_law_take) := ⟨rfl, rfl, rfl, by decide +kernel, rfl, by decide +kernel, by decide +kernel⟩
noncomputable def f_law_take : Sf := (sSeq (sIf (tst (eBin gGtI (eBin gIx (eVar 0) (eC (.int 0))) (eC (.int 0)))) (sSeq (sAsg (eCB gDivmod (aCons (eBin gIx (eVar 0) (eC (.int 0))) (aCons (eVar 1) aNil))) (gTu 2 (gsCons (gSub2 (eVar 0) (eC (.int 0))) (gsCons (gN 2) gsNil)))) (sRet (eVar 2))) sNil) (sSeq (sAsg (eBin (gAdd .D) (eBin gIx (eVar 0) (eC (.int 2))) (eC (.int 1))) (gSub2 (eVar 0) (eC (.int 2)))) (sSeq (sAsg (eBin (gAdd .D) (eC (.int 69621)) (eBin (gMul .D) (eBin gIx (eVar 0) (eC (.int 2))) (eBin gIx (eVar 0) (eC (.int 2))))) (gN 3)) (sSeq (sAsg (eBin gMod (eBin (gMul .D) (eBin (gAdd .D) (eBin gIx (eVar 0) (eC (.int 1))) (eBin (gMul .D) (eC (.int 39373)) (eBin gIx (eVar 0) (eC (.int 2))))) (eVar 3)) (eC (.int 2147483587))) (gN 4)) (sSeq (sAsg (eBin gMod (eBin (gAdd .D) (eBin (gMul .D) (eVar 4) (eBin (gAdd .D) (eBin gMod (eVar 4) (eC (.int 30011))) (eC (.int 5)))) (eBin gIx (eVar 0) (eC (.int 2)))) (eC (.int 2147483563))) (gN 5)) (sRet (eBin gMod (eBin gDiv (eBin gMod (eBin (gMul .D) (eVar 5) (eBin (gAdd .D) (eBin gMod (eVar 5) (eC (.int 1013))) (eC (.int 3)))) (eC (.int 998244353))) (eC (.int 16))) (eVar 1))))))))
noncomputable def p_law_take : List Val → Sto → Option (Val × Sto) := φof 6 0 f_law_take
abbrev s_law_folded : Stmt := topS 11
theorem sc_law_folded : FnScope ["_law_script", "_law_size", "_law_cells", "_law_k", "_law_cell"] ["_law_script", "_law_size"] (defScope s_law_folded) := ⟨rfl, rfl, rfl, by decide +kernel, rfl, by decide +kernel, by decide +kernel⟩
noncomputable def f_law_folded : Sf := (sSeq (sAsg (eCB (gList .N) (aCons (eSl .D (eVar 0) oNo (oSo (eVar 1))) aNil)) (gN 2)) (sSeq (sFor (iEn (aCons (eSl .D (eVar 0) (oSo (eVar 1)) (oSo (eC (.int 63)))) aNil)) (gTu 2 (gsCons (gN 3) (gsCons (gN 4) gsNil))) (sAsg (eBin (gAdd .D) (eBin gIx (eVar 2) (eBin gMod (eVar 3) (eVar 1))) (eBin (gMul .D) (eVar 4) (eBin (gAdd .D) (eVar 3) (eC (.int 2))))) (gSub2 (eVar 2) (eBin gMod (eVar 3) (eVar 1))))) (sFrz 2 (sRet (eFrz (eVar 2))))))
noncomputable def p_law_folded : List Val → Sto → Option (Val × Sto) := φof 5 0 f_law_folded
abbrev s_law_same : Stmt := topS 12
theorem sc_law_same : FnScope ["_law_found", "_law_due", "_law_one", "_law_other"] ["_law_found", "_law_due"] (defScope s_law_same) := ⟨rfl, rfl, rfl, by decide +kernel, rfl, by decide +kernel, by decide +kernel⟩
noncomputable def f_law_same (me : List Val → Sto → Option (Val × Sto)) : Sf := (sSeq (sIf (tst (gIsi ["list", "tuple"] (eVar 1))) (sSeq (sIf (fOr (fNot (tst (gIsi ["list", "tuple"] (eVar 0)))) (tst (eBin gNe (gIsi ["list"] (eVar 0)) (gIsi ["list"] (eVar 1))))) (sRet (eC (.bool false))) sNil) (sRet (eAnd (eBin gEq (eCB gLen (aCons (eVar 0) aNil)) (eCB gLen (aCons (eVar 1) aNil))) (eCB gAll (aCons (eLcD .D (jZp (aCons (eVar 0) (aCons (eVar 1) aNil))) (gTu 2 (gsN [2, 3])) fYes (eCall 2 me (aCons (eVar 2) (aCons (eVar 3) aNil))) [2, 3]) aNil))))) sNil) (sSeq (sIf (fOr (tst (eBin (gIs false) (eVar 1) (eC .none))) (tst (gIsi ["str"] (eVar 1)))) (sRet (eAnd (eBin gEq (eVar 0) (eVar 1)) (eBin gEq (gIsi ["str"] (eVar 0)) (gIsi ["str"] (eVar 1))))) sNil) (sRet (eAnd (gIsi ["int"] (eVar 0)) (eAnd (eBin gEq (gIsi ["bool"] (eVar 0)) (gIsi ["bool"] (eVar 1))) (eBin gEq (eVar 0) (eVar 1)))))))
noncomputable def p_law_same : List Val → Sto → Option (Val × Sto) := recφ 4 0 f_law_same 12
abbrev s_law_place : Stmt := topS 13
theorem sc_law_place : FnScope ["_law_box_here", "_law_taken", "_law_most", "_law_x", "_law_y", "_law_turn"] ["_law_box_here", "_law_taken"] (defScope s_law_place) := ⟨rfl, rfl, rfl, by decide +kernel, rfl, by decide +kernel, by decide +kernel⟩
noncomputable def f_law_place : Sf := (sSeq (sAsg (eIf (tst (eBin gEq (eCall 2 p_law_take (aCons (eVar 0) (aCons (eC (.int 4)) aNil))) (eC (.int 0)))) (eC (.int 1001)) (eC (.int 13))) (gN 2)) (sSeq (sPar 3 4 (aCons (eCall 2 p_law_take (aCons (eVar 0) (aCons (eVar 2) aNil))) (aCons (eCall 2 p_law_take (aCons (eVar 0) (aCons (eVar 2) aNil))) aNil))) (sSeq (sFor (iR1 (aCons (eBin (gAdd .D) (eCB gLen (aCons (eVar 1) aNil)) (eC (.int 1))) aNil)) (gN 5) (sIf (tst (eBin (gIn false) (eTup (aCons (eVar 3) (aCons (eVar 4) aNil))) (eVar 1))) (sAsg (eBin gMod (eBin (gAdd .D) (eVar 3) (eC (.int 1))) (eC (.int 1001))) (gN 3)) sNil)) (sRet (eTup (aCons (eVar 3) (aCons (eVar 4) aNil)))))))
noncomputable def p_law_place : List Val → Sto → Option (Val × Sto) := φof 6 0 f_law_place
abbrev s_law_way : Stmt := topS 14
theorem sc_law_way : FnScope ["_law_one", "_law_other"] ["_law_one", "_law_other"] (defScope s_law_way) := ⟨rfl, rfl, rfl, by decide +kernel, rfl, by decide +kernel, by decide +kernel⟩
noncomputable def f_law_way : Sf := (sRet (eCB gMax2 (aCons (eCB gAbs (aCons (eBin gSub (eBin gIx (eVar 0) (eC (.int 0))) (eBin gIx (eVar 1) (eC (.int 0)))) aNil)) (aCons (eCB gAbs (aCons (eBin gSub (eBin gIx (eVar 0) (eC (.int 1))) (eBin gIx (eVar 1) (eC (.int 1)))) aNil)) aNil))))
noncomputable def p_law_way : List Val → Sto → Option (Val × Sto) := φof 2 0 f_law_way
abbrev s_law_spots : Stmt := topS 15
theorem sc_law_spots : FnScope ["_law_box_here", "_law_many", "_law_found", "_law_k", "_law_near"] ["_law_box_here"] (defScope s_law_spots) := ⟨rfl, rfl, rfl, by decide +kernel, rfl, by decide +kernel, by decide +kernel⟩
noncomputable def f_law_spots : Sf := (sSeq (sAsg (eBin (gAdd .D) (eC (.int 1)) (eCall 2 p_law_take (aCons (eVar 0) (aCons (eIf (tst (eBin gEq (eCall 2 p_law_take (aCons (eVar 0) (aCons (eC (.int 8)) aNil))) (eC (.int 0)))) (eC (.int 130)) (eC (.int 9))) aNil)))) (gN 1)) (sSeq (sAsg (eLst .N (aCons (eCall 2 p_law_place (aCons (eVar 0) (aCons (eLst .D aNil) aNil))) aNil)) (gN 2)) (sSeq (sFor (iR1 (aCons (eBin gSub (eVar 1) (eC (.int 1))) aNil)) (gN 3) (sSeq (sAsg (eTup (aCons (eCall 2 p_law_take (aCons (eVar 0) (aCons (eC (.int 13)) aNil))) (aCons (eCall 2 p_law_take (aCons (eVar 0) (aCons (eC (.int 13)) aNil))) aNil))) (gN 4)) (sExpr (eMt gAppend (eVar 2) (aCons (eBin gIx (eLst .D (aCons (eBin gIx (eVar 2) (eNeg (eC (.int 1)))) (aCons (eVar 4) (aCons (eIf (tst (eBin gLtI (eVar 1) (eC (.int 10)))) (eCall 2 p_law_place (aCons (eVar 0) (aCons (eLst .D aNil) aNil))) (eVar 4)) aNil)))) (eCall 2 p_law_take (aCons (eVar 0) (aCons (eC (.int 3)) aNil)))) aNil))))) (sFrz 2 (sRet (eFrz (eVar 2)))))))
noncomputable def p_law_spots : List Val → Sto → Option (Val × Sto) := φof 5 0 f_law_spots
abbrev s_law_steps : Stmt := topS 16
theorem sc_law_steps : FnScope ["_law_places", "_law_work", "_law_found", "_law_one", "_law_other", "_law_at", "_law_tick"] ["_law_places", "_law_work"] (defScope s_law_steps) := ⟨rfl, rfl, rfl, by decide +kernel, rfl, by decide +kernel, by decide +kernel⟩
noncomputable def f_law_steps : Sf := (sSeq (sAsg (eBin (gMul .N) (eLst .D (aCons (eBin gIx (eBin gIx (eVar 0) (eC (.int 0))) (eC (.int 0))) aNil)) (eBin (gAdd .D) (eVar 1) (eC (.int 1)))) (gN 2)) (sSeq (sFor (iZp (aCons (eVar 0) (aCons (eSl .D (eVar 0) (oSo (eC (.int 1))) oNo) aNil))) (gTu 2 (gsCons (gN 3) (gsCons (gN 4) gsNil))) (sSeq (sAsg (eBin gIx (eVar 3) (eC (.int 0))) (gN 5)) (sSeq (sFor (iR1 (aCons (eCall 2 p_law_way (aCons (eVar 3) (aCons (eVar 4) aNil))) aNil)) (gN 6) (sSeq (sAsg (eBin gSub (eBin (gAdd .D) (eVar 5) (eCB gInt (aCons (eBin gLtI (eVar 5) (eBin gIx (eVar 4) (eC (.int 0)))) aNil))) (eCB gInt (aCons (eBin gGtI (eVar 5) (eBin gIx (eVar 4) (eC (.int 0)))) aNil))) (gN 5)) (sExpr (eMt gAppend (eVar 2) (aCons (eVar 5) aNil))))) (sAsg (eBin (gAdd .N) (eVar 2) (eBin (gMul .D) (eLst .D (aCons (eVar 5) aNil)) (eVar 1))) (gN 2))))) (sFrz 2 (sRet (eFrz (eVar 2))))))
noncomputable def p_law_steps : List Val → Sto → Option (Val × Sto) := φof 7 0 f_law_steps
abbrev s_law_right : Stmt := topS 17
theorem sc_law_right : FnScope ["_law_box_here", "_law_places", "_law_work", "_law_kept", "_law_more", "_law_one", "_law_other", "_law_total", "_law_ticks", "_law_found", "_law_due"] ["_law_box_here"] (defScope s_law_right) := ⟨rfl, rfl, rfl, by decide +kernel, rfl, by decide +kernel, by decide +kernel⟩
noncomputable def f_law_right : Sf := (sSeq (sPar 1 2 (aCons (eCall 1 p_law_spots (aCons (eVar 0) aNil)) (aCons (eBin gIx (eLst .D (aCons (eC (.int 0)) (aCons (eC (.int 1)) (aCons (eCall 2 p_law_take (aCons (eVar 0) (aCons (eC (.int 21)) aNil))) aNil)))) (eCall 2 p_law_take (aCons (eVar 0) (aCons (eC (.int 3)) aNil)))) aNil))) (sSeq (sPar 3 4 (aCons (eCB gStrA (aCons (eVar 1) aNil)) (aCons (eBin gIx (eLst .D (aCons (eC (.int 0)) (aCons (eBin (gAdd .D) (eVar 2) (eC (.int 1))) (aCons (eC (.int 20)) aNil)))) (eCall 2 p_law_take (aCons (eVar 0) (aCons (eC (.int 3)) aNil)))) aNil))) (sSeq (sAsg (eCB gSum (aCons (eLc .D (iZp (aCons (eVar 1) (aCons (eSl .D (eVar 1) (oSo (eC (.int 1))) oNo) aNil))) (gTu 2 (gsN [5, 6])) fYes (eCall 2 p_law_way (aCons (eVar 5) (aCons (eVar 6) aNil))) [5, 6]) aNil)) (gN 7)) (sSeq (sFor (iSq (eTup (aCons (eVar 2) (aCons (eCB gMin2 (aCons (eC (.int 20)) (aCons (eVar 4) aNil))) (aCons (eVar 2) aNil))))) (gN 8) (sSeq (sPar 9 10 (aCons (eCall 2 p_track_by (aCons (eVar 1) (aCons (eVar 8) aNil))) (aCons (eCall 2 p_law_steps (aCons (eVar 1) (aCons (eVar 8) aNil))) aNil))) (sSeq (sIf (fOr (fNot (tst (eCall 2 p_law_same (aCons (eVar 9) (aCons (eVar 10) aNil))))) (fOr (tst (eBin gNe (eCB gLen (aCons (eVar 9) aNil)) (eBin (gAdd .D) (eBin (gAdd .D) (eC (.int 1)) (eBin (gMul .D) (eVar 8) (eCB gLen (aCons (eVar 1) aNil)))) (eVar 7)))) (tst (eBin gNe (eCB gStrA (aCons (eVar 1) aNil)) (eVar 3))))) (sRet (eC (.bool false))) sNil) (sSeq (sIf (tst (eBin (gIsB true) (eCall 1 p_is_track (aCons (eVar 9) aNil)) (eC (.bool true)))) (sRet (eC (.bool false))) sNil) (sSeq (sExpr (eMt gAppend (eVar 9) (aCons (eBin (gAdd .D) (eBin gIx (eVar 9) (eNeg (eC (.int 1)))) (eC (.int 2))) aNil))) (sFrz 9 (sIf (tst (eBin (gIsB true) (eCall 1 p_is_track (aCons (eVar 9) aNil)) (eC (.bool false)))) (sRet (eC (.bool false))) sNil))))))) (sRet (eC (.bool true)))))))
noncomputable def p_law_right : List Val → Sto → Option (Val × Sto) := φof 11 0 f_law_right
abbrev s_law : Stmt := topS 18
theorem sc_law : FnScope ["_law_script", "_law_cells", "_law_k"] ["_law_script"] (defScope s_law) := ⟨rfl, rfl, rfl, by decide +kernel, rfl, by decide +kernel, by decide +kernel⟩
noncomputable def f_law : Sf := (sSeq (sAsg (eCall 2 p_law_folded (aCons (eVar 0) (aCons (eC (.int 3)) aNil))) (gN 1)) (sRet (eCB gAll (aCons (eLc .D (iR1 (aCons (eCB gMax2 (aCons (eC (.int 2)) (aCons (eCB gLen (aCons (eVar 1) aNil)) aNil))) aNil)) (gN 2) fYes (eCall 1 p_law_right (aCons (eCall 2 p_law_box (aCons (eVar 1) (aCons (eVar 2) aNil))) aNil)) [2]) aNil))))
noncomputable def p_law : List Val → Sto → Option (Val × Sto) := φof 3 0 f_law
structure Txt (mg : Str → Option Value) : Prop where
  m_abs : mg "abs" = none
  m_all : mg "all" = none
  m_bool : mg "bool" = none
  m_divmod : mg "divmod" = none
  m_enumerate : mg "enumerate" = none
  m_int : mg "int" = none
  m_isinstance : mg "isinstance" = none
  m_len : mg "len" = none
  m_list : mg "list" = none
  m_max : mg "max" = none
  m_min : mg "min" = none
  m_range : mg "range" = none
  m_str : mg "str" = none
  m_sum : mg "sum" = none
  m_tuple : mg "tuple" = none
  m_zip : mg "zip" = none
section
variable {P : Program} {w : World} {K : PySem.W.Frag} {mg : Str → Option Value} {base : Heap}
theorem ok_is_number {f : Addr} {fd : FuncData} (T : Txt mg) (F : Fun K "is_number" "is_number" s_is_number f fd) (gm : mg "is_number" = some (.ref f)) (hb : Binds K fd ["thing"] [])  : DefOk P w K mg base 1 "is_number" 1 p_is_number :=
  def_ok F gm sc_is_number hb rfl (fun cdv A outer s H hr => (sss_one (ss_ret (ee_and (ee_isi T.m_isinstance T.m_int (ev 0)) (ee_one (ee_not (ee_isi T.m_isinstance T.m_bool (ev 0)))))))) (does_of _ _ _ _)
theorem ok_way_between {f : Addr} {fd : FuncData} (T : Txt mg) (F : Fun K "way_between" "way_between" s_way_between f fd) (gm : mg "way_between" = some (.ref f)) (hb : Binds K fd ["one", "other"] [])  : DefOk P w K mg base 1 "way_between" 2 p_way_between :=
  def_ok F gm sc_way_between hb rfl (fun cdv A outer s H hr => (sss_one (ss_ret (ee_cb cg_max2 T.m_max (ea_cons (ee_cb cg_abs T.m_abs (ea_cons (ee_op og_sub (ee_ix (ev 0) ei) (ee_ix (ev 1) ei)) ea_nil)) (ea_cons (ee_cb cg_abs T.m_abs (ea_cons (ee_op og_sub (ee_ix (ev 0) ei) (ee_ix (ev 1) ei)) ea_nil)) ea_nil)))))) (does_of _ _ _ _)
theorem ok_side_behind {f : Addr} {fd : FuncData} (T : Txt mg) (F : Fun K "side_behind" "side_behind" s_side_behind f fd) (gm : mg "side_behind" = some (.ref f)) (hb : Binds K fd ["one", "other", "ticks"] [])  : DefOk P w K mg base 1 "side_behind" 3 p_side_behind :=
  def_ok F gm sc_side_behind hb rfl (fun cdv A outer s H hr => (sss_cons (ss_if (et_cmp og_le (ev 0) (ev 1)) (sss_one (ss_ret (ee_cb cg_min2 T.m_min (ea_cons (ev 1) (ea_cons (ee_op (og_add .D) (ev 0) (ev 2)) ea_nil))))) sss_nil) (sss_one (ss_ret (ee_cb cg_max2 T.m_max (ea_cons (ev 1) (ea_cons (ee_op og_sub (ev 0) (ev 2)) ea_nil))))))) (does_of _ _ _ _)
theorem ok_going_to {f : Addr} {fd : FuncData} (T : Txt mg) (F : Fun K "going_to" "going_to" s_going_to f fd) (gm : mg "going_to" = some (.ref f)) (hb : Binds K fd ["one", "other", "ticks"] []) (D_side_behind : DefOk P w K mg base 1 "side_behind" 3 p_side_behind) : DefOk P w K mg base 2 "going_to" 3 p_going_to :=
  def_ok F gm sc_going_to hb rfl (fun cdv A outer s H hr => (sss_one (ss_ret (ee_tup (ea_cons (ee_call (D_side_behind.mono (by first | omega | exact Nat.le_refl _)) hr (ea_cons (ee_ix (ev 0) ei) (ea_cons (ee_ix (ev 1) ei) (ea_cons (ev 2) ea_nil)))) (ea_cons (ee_call (D_side_behind.mono (by first | omega | exact Nat.le_refl _)) hr (ea_cons (ee_ix (ev 0) ei) (ea_cons (ee_ix (ev 1) ei) (ea_cons (ev 2) ea_nil)))) ea_nil)))))) (does_of _ _ _ _)
theorem ok_is_track {f : Addr} {fd : FuncData} (T : Txt mg) (F : Fun K "is_track" "is_track" s_is_track f fd) (gm : mg "is_track" = some (.ref f)) (hb : Binds K fd ["thing"] []) (D_is_number : DefOk P w K mg base 1 "is_number" 1 p_is_number) : DefOk P w K mg base 2 "is_track" 1 p_is_track :=
  def_ok F gm sc_is_track hb rfl (fun cdv A outer s H hr => (sss_cons (ss_if (et_bo (ew_or (et_not (et_val (ee_isi T.m_isinstance T.m_list (ev 0)))) (ew_or (et_cmp (og_eq hr.room) (ev 0) (ee_lst .D ea_nil)) (ew_or1 (et_not (et_val (ee_cb cg_all T.m_all (ea_cons (ee_lcD .D [("one", 1)] sc_is_track.nd (ej_seq (ev 0)) (blkOk_by (N := ["thing", "one", "other"]) (sc := defScope s_is_track) (by decide +kernel)) (.name 1 (by decide)) (fun _ _ _ _ _ => pg_name (i := 1) sc_is_track.nd rfl (by first | exact Or.inl rfl | exact Or.inr rfl)) (fun _ _ _ _ _ => ets_nil) (fun _ _ _ _ _ => (ee_call (D_is_number.mono (by first | omega | exact Nat.le_refl _)) hr (ea_cons (ev 1) ea_nil)))) ea_nil)))))))) (sss_one (ss_ret ebl)) sss_nil) (sss_one (ss_ret (ee_cb cg_all T.m_all (ea_cons (ee_lcD .D [("one", 1), ("other", 2)] sc_is_track.nd (ej_zip T.m_zip (ea_cons (ev 0) (ea_cons (ee_sl .D (ev 0) (eo_some ei) eo_none) ea_nil))) (blkOk_by (N := ["thing", "one", "other"]) (sc := defScope s_is_track) (by decide +kernel)) (lct_tup 2 [1, 2]) (fun _ _ _ _ _ => pg_tup rfl (pgs_cons (pg_name (i := 1) sc_is_track.nd rfl (by first | exact Or.inl rfl | exact Or.inr rfl)) (pgs_cons (pg_name (i := 2) sc_is_track.nd rfl (by first | exact Or.inl rfl | exact Or.inr rfl)) pgs_nil))) (fun _ _ _ _ _ => ets_nil) (fun _ _ _ _ _ => (ee_cmp og_le (ee_cb cg_abs T.m_abs (ea_cons (ee_op og_sub (ev 1) (ev 2)) ea_nil)) ei))) ea_nil)))))) (does_of _ _ _ _)
theorem ok_track_by {f : Addr} {fd : FuncData} (T : Txt mg) (F : Fun K "track_by" "track_by" s_track_by f fd) (gm : mg "track_by" = some (.ref f)) (hb : Binds K fd ["places", "work"] []) (D_way_between : DefOk P w K mg base 1 "way_between" 2 p_way_between) (D_going_to : DefOk P w K mg base 2 "going_to" 3 p_going_to) : DefOk P w K mg base 3 "track_by" 2 p_track_by :=
  def_ok F gm sc_track_by hb rfl (fun cdv A outer s H hr => (sss_cons (ss_set 2 sc_track_by.nd (ee_op (og_mul .N) (ee_lst .D (ea_cons (ee_ix (ee_ix (ev 0) ei) ei) ea_nil)) (ee_op (og_add .D) (ev 1) ei))) (sss_cons (ss_for (ei_zip T.m_zip (ea_cons (ev 0) (ea_cons (ee_sl .D (ev 0) (eo_some ei) eo_none) ea_nil))) (eg_tup (egs_cons (eg_name 3 sc_track_by.nd) (egs_cons (eg_name 4 sc_track_by.nd) egs_nil))) (sss_cons (ss_expr (ee_extend (ev 2) (ea_cons (ee_lc .D [("ticks", 5)] sc_track_by.nd (ei_r2 T.m_range (ea_cons ei (ea_cons (ee_op (og_add .D) (ee_call (D_way_between.mono (by first | omega | exact Nat.le_refl _)) hr (ea_cons (ev 3) (ea_cons (ev 4) ea_nil))) ei) ea_nil))) (blkOk_by (N := ["places", "work", "found", "one", "other", "ticks"]) (sc := defScope s_track_by) (by decide +kernel)) (.name 5 (by decide)) (fun _ _ _ _ _ => pg_name (i := 5) sc_track_by.nd rfl (by first | exact Or.inl rfl | exact Or.inr rfl)) (fun _ _ _ _ _ => ets_nil) (fun _ _ _ _ _ => (ee_ix (ee_call (D_going_to.mono (by first | omega | exact Nat.le_refl _)) hr (ea_cons (ev 3) (ea_cons (ev 4) (ea_cons (ev 5) ea_nil)))) ei))) ea_nil))) (sss_one (ss_expr (ee_extend (ev 2) (ea_cons (ee_op (og_mul .D) (ee_lst .D (ea_cons (ee_ix (ev 4) ei) ea_nil)) (ev 1)) ea_nil)))))) (sss_one (ss_ret (ev 2)))))) (does_of _ _ _ _)
theorem ok_law_box {f : Addr} {fd : FuncData} (T : Txt mg) (F : Fun K "_law_box" "_law_box" s_law_box f fd) (gm : mg "_law_box" = some (.ref f)) (hb : Binds K fd ["_law_script", "_law_k"] [])  : DefOk P w K mg base 1 "_law_box" 2 p_law_box :=
  def_ok F gm sc_law_box hb rfl (fun cdv A outer s H hr => (sss_cons (ss_set 2 sc_law_box.nd (ee_if (et_cmp og_ltI (ev 1) (ee_cb cg_len T.m_len (ea_cons (ev 0) ea_nil))) (ee_ix (ev 0) (ev 1)) ei)) (sss_one (ss_ret (ee_lst .N (ea_cons (ee_op (og_mul .D) (ee_cb cg_abs T.m_abs (ea_cons (ev 2) ea_nil)) (ee_cty cg_int T.m_int (ea_cons (ee_cmp og_geI (ee_cb cg_abs T.m_abs (ea_cons (ev 2) ea_nil)) (ee_op og_pow ei ei)) ea_nil))) (ea_cons (ee_op og_mod (ee_op (og_mul .D) (ee_op (og_add .D) (ee_op (og_add .D) (ee_op og_mod (ev 2) ei) (ee_op (og_mul .D) ei (ev 1))) ei) ei) ei) (ea_cons ei ea_nil)))))))) (does_of _ _ _ _)
theorem ok_law_take {f : Addr} {fd : FuncData} (T : Txt mg) (F : Fun K "_law_take" "_law_take" s_law_take f fd) (gm : mg "_law_take" = some (.ref f)) (hb : Binds K fd ["_law_box_here", "_law_size"] [])  : DefOk P w K mg base 1 "_law_take" 2 p_law_take :=
  def_ok F gm sc_law_take hb rfl (fun cdv A outer s H hr => (sss_cons (ss_if (et_cmp og_gtI (ee_ix (ev 0) ei) ei) (sss_cons (ss_asg (ee_cb cg_divmod T.m_divmod (ea_cons (ee_ix (ev 0) ei) (ea_cons (ev 1) ea_nil))) (eg_tup (egs_cons (eg_sub (ev 0) ei) (egs_cons (eg_name 2 sc_law_take.nd) egs_nil)))) (sss_one (ss_ret (ev 2)))) sss_nil) (sss_cons (ss_asg (ee_op (og_add .D) (ee_ix (ev 0) ei) ei) (eg_sub (ev 0) ei)) (sss_cons (ss_set 3 sc_law_take.nd (ee_op (og_add .D) ei (ee_op (og_mul .D) (ee_ix (ev 0) ei) (ee_ix (ev 0) ei)))) (sss_cons (ss_set 4 sc_law_take.nd (ee_op og_mod (ee_op (og_mul .D) (ee_op (og_add .D) (ee_ix (ev 0) ei) (ee_op (og_mul .D) ei (ee_ix (ev 0) ei))) (ev 3)) ei)) (sss_cons (ss_set 5 sc_law_take.nd (ee_op og_mod (ee_op (og_add .D) (ee_op (og_mul .D) (ev 4) (ee_op (og_add .D) (ee_op og_mod (ev 4) ei) ei)) (ee_ix (ev 0) ei)) ei)) (sss_one (ss_ret (ee_op og_mod (ee_op og_div (ee_op og_mod (ee_op (og_mul .D) (ev 5) (ee_op (og_add .D) (ee_op og_mod (ev 5) ei) ei)) ei) ei) (ev 1)))))))))) (does_of _ _ _ _)
theorem ok_law_folded {f : Addr} {fd : FuncData} (T : Txt mg) (F : Fun K "_law_folded" "_law_folded" s_law_folded f fd) (gm : mg "_law_folded" = some (.ref f)) (hb : Binds K fd ["_law_script", "_law_size"] [])  : DefOk P w K mg base 1 "_law_folded" 2 p_law_folded :=
  def_ok F gm sc_law_folded hb rfl (fun cdv A outer s H hr => (sss_cons (ss_set 2 sc_law_folded.nd (ee_cty (cg_list .N) T.m_list (ea_cons (ee_sl .D (ev 0) eo_none (eo_some (ev 1))) ea_nil))) (sss_cons (ss_for (ei_enum T.m_enumerate (ea_cons (ee_sl .D (ev 0) (eo_some (ev 1)) (eo_some ei)) ea_nil)) (eg_tup (egs_cons (eg_name 3 sc_law_folded.nd) (egs_cons (eg_name 4 sc_law_folded.nd) egs_nil))) (sss_one (ss_asg (ee_op (og_add .D) (ee_ix (ev 2) (ee_op og_mod (ev 3) (ev 1))) (ee_op (og_mul .D) (ev 4) (ee_op (og_add .D) (ev 3) ei))) (eg_sub (ev 2) (ee_op og_mod (ev 3) (ev 1)))))) (sss_frz 2 (sss_one (ss_ret (ee_frz (ev 2)))))))) (does_of _ _ _ _)
theorem ok_law_same {f : Addr} {fd : FuncData} (T : Txt mg) (F : Fun K "_law_same" "_law_same" s_law_same f fd) (gm : mg "_law_same" = some (.ref f)) (hb : Binds K fd ["_law_found", "_law_due"] [])  : ∀ n : Nat, DefOk P w K mg base (1 + n) "_law_same" 2 (recφ 4 0 f_law_same n)
  | 0 => def_none F gm hb rfl
  | n + 1 => have D_law_same := ok_law_same T F gm hb  n
    have := def_ok F gm sc_law_same hb rfl (fun cdv A outer s H hr => (sss_cons (ss_if (et_val (ee_isi2 T.m_isinstance T.m_list T.m_tuple (ev 1))) (sss_cons (ss_if (et_bo (ew_or (et_not (et_val (ee_isi2 T.m_isinstance T.m_list T.m_tuple (ev 0)))) (ew_or1 (et_cmp (og_ne hr.room) (ee_isi T.m_isinstance T.m_list (ev 0)) (ee_isi T.m_isinstance T.m_list (ev 1)))))) (sss_one (ss_ret ebl)) sss_nil) (sss_one (ss_ret (ee_and (ee_cmp (og_eq hr.room) (ee_cb cg_len T.m_len (ea_cons (ev 0) ea_nil)) (ee_cb cg_len T.m_len (ea_cons (ev 1) ea_nil))) (ee_one (ee_cb cg_all T.m_all (ea_cons (ee_lcD .D [("_law_one", 2), ("_law_other", 3)] sc_law_same.nd (ej_zip T.m_zip (ea_cons (ev 0) (ea_cons (ev 1) ea_nil))) (blkOk_by (N := ["_law_found", "_law_due", "_law_one", "_law_other"]) (sc := defScope s_law_same) (by decide +kernel)) (lct_tup 2 [2, 3]) (fun _ _ _ _ _ => pg_tup rfl (pgs_cons (pg_name (i := 2) sc_law_same.nd rfl (by first | exact Or.inl rfl | exact Or.inr rfl)) (pgs_cons (pg_name (i := 3) sc_law_same.nd rfl (by first | exact Or.inl rfl | exact Or.inr rfl)) pgs_nil))) (fun _ _ _ _ _ => ets_nil) (fun _ _ _ _ _ => (ee_call (D_law_same.mono (by first | omega | exact Nat.le_refl _)) hr (ea_cons (ev 2) (ea_cons (ev 3) ea_nil))))) ea_nil))))))) sss_nil) (sss_cons (ss_if (et_bo (ew_or (et_cmp og_is (ev 1) eno) (ew_or1 (et_val (ee_isi T.m_isinstance T.m_str (ev 1)))))) (sss_one (ss_ret (ee_and (ee_cmp (og_eq hr.room) (ev 0) (ev 1)) (ee_one (ee_cmp (og_eq hr.room) (ee_isi T.m_isinstance T.m_str (ev 0)) (ee_isi T.m_isinstance T.m_str (ev 1))))))) sss_nil) (sss_one (ss_ret (ee_and (ee_isi T.m_isinstance T.m_int (ev 0)) (ee_and (ee_cmp (og_eq hr.room) (ee_isi T.m_isinstance T.m_bool (ev 0)) (ee_isi T.m_isinstance T.m_bool (ev 1))) (ee_one (ee_cmp (og_eq hr.room) (ev 0) (ev 1)))))))))) (does_of 4 2 0 (f_law_same (recφ 4 0 f_law_same n)))
    this
theorem ok_law_place {f : Addr} {fd : FuncData} (T : Txt mg) (F : Fun K "_law_place" "_law_place" s_law_place f fd) (gm : mg "_law_place" = some (.ref f)) (hb : Binds K fd ["_law_box_here", "_law_taken"] []) (D_law_take : DefOk P w K mg base 1 "_law_take" 2 p_law_take) : DefOk P w K mg base 2 "_law_place" 2 p_law_place :=
  def_ok F gm sc_law_place hb rfl (fun cdv A outer s H hr => (sss_cons (ss_set 2 sc_law_place.nd (ee_if (et_cmp (og_eq hr.room) (ee_call (D_law_take.mono (by first | omega | exact Nat.le_refl _)) hr (ea_cons (ev 0) (ea_cons ei ea_nil))) ei) ei ei)) (sss_cons (ss_par 3 4 sc_law_place.nd (ea_cons (ee_call (D_law_take.mono (by first | omega | exact Nat.le_refl _)) hr (ea_cons (ev 0) (ea_cons (ev 2) ea_nil))) (ea_cons (ee_call (D_law_take.mono (by first | omega | exact Nat.le_refl _)) hr (ea_cons (ev 0) (ea_cons (ev 2) ea_nil))) ea_nil))) (sss_cons (ss_for (ei_r1 T.m_range (ea_cons (ee_op (og_add .D) (ee_cb cg_len T.m_len (ea_cons (ev 1) ea_nil)) ei) ea_nil)) (eg_name 5 sc_law_place.nd) (sss_one (ss_if (et_cmp (og_in hr.room) (ee_tup (ea_cons (ev 3) (ea_cons (ev 4) ea_nil))) (ev 1)) (sss_one (ss_set 3 sc_law_place.nd (ee_op og_mod (ee_op (og_add .D) (ev 3) ei) ei))) sss_nil))) (sss_one (ss_ret (ee_tup (ea_cons (ev 3) (ea_cons (ev 4) ea_nil))))))))) (does_of _ _ _ _)
theorem ok_law_way {f : Addr} {fd : FuncData} (T : Txt mg) (F : Fun K "_law_way" "_law_way" s_law_way f fd) (gm : mg "_law_way" = some (.ref f)) (hb : Binds K fd ["_law_one", "_law_other"] [])  : DefOk P w K mg base 1 "_law_way" 2 p_law_way :=
  def_ok F gm sc_law_way hb rfl (fun cdv A outer s H hr => (sss_one (ss_ret (ee_cb cg_max2 T.m_max (ea_cons (ee_cb cg_abs T.m_abs (ea_cons (ee_op og_sub (ee_ix (ev 0) ei) (ee_ix (ev 1) ei)) ea_nil)) (ea_cons (ee_cb cg_abs T.m_abs (ea_cons (ee_op og_sub (ee_ix (ev 0) ei) (ee_ix (ev 1) ei)) ea_nil)) ea_nil)))))) (does_of _ _ _ _)
theorem ok_law_spots {f : Addr} {fd : FuncData} (T : Txt mg) (F : Fun K "_law_spots" "_law_spots" s_law_spots f fd) (gm : mg "_law_spots" = some (.ref f)) (hb : Binds K fd ["_law_box_here"] []) (D_law_take : DefOk P w K mg base 1 "_law_take" 2 p_law_take) (D_law_place : DefOk P w K mg base 2 "_law_place" 2 p_law_place) : DefOk P w K mg base 3 "_law_spots" 1 p_law_spots :=
  def_ok F gm sc_law_spots hb rfl (fun cdv A outer s H hr => (sss_cons (ss_set 1 sc_law_spots.nd (ee_op (og_add .D) ei (ee_call (D_law_take.mono (by first | omega | exact Nat.le_refl _)) hr (ea_cons (ev 0) (ea_cons (ee_if (et_cmp (og_eq hr.room) (ee_call (D_law_take.mono (by first | omega | exact Nat.le_refl _)) hr (ea_cons (ev 0) (ea_cons ei ea_nil))) ei) ei ei) ea_nil))))) (sss_cons (ss_set 2 sc_law_spots.nd (ee_lst .N (ea_cons (ee_call (D_law_place.mono (by first | omega | exact Nat.le_refl _)) hr (ea_cons (ev 0) (ea_cons (ee_lst .D ea_nil) ea_nil))) ea_nil))) (sss_cons (ss_for (ei_r1 T.m_range (ea_cons (ee_op og_sub (ev 1) ei) ea_nil)) (eg_name 3 sc_law_spots.nd) (sss_cons (ss_set 4 sc_law_spots.nd (ee_tup (ea_cons (ee_call (D_law_take.mono (by first | omega | exact Nat.le_refl _)) hr (ea_cons (ev 0) (ea_cons ei ea_nil))) (ea_cons (ee_call (D_law_take.mono (by first | omega | exact Nat.le_refl _)) hr (ea_cons (ev 0) (ea_cons ei ea_nil))) ea_nil)))) (sss_one (ss_expr (ee_append (ev 2) (ea_cons (ee_ix (ee_lst .D (ea_cons (ee_ix (ev 2) (ee_neg ei)) (ea_cons (ev 4) (ea_cons (ee_if (et_cmp og_ltI (ev 1) ei) (ee_call (D_law_place.mono (by first | omega | exact Nat.le_refl _)) hr (ea_cons (ev 0) (ea_cons (ee_lst .D ea_nil) ea_nil))) (ev 4)) ea_nil)))) (ee_call (D_law_take.mono (by first | omega | exact Nat.le_refl _)) hr (ea_cons (ev 0) (ea_cons ei ea_nil)))) ea_nil)))))) (sss_frz 2 (sss_one (ss_ret (ee_frz (ev 2))))))))) (does_of _ _ _ _)
theorem ok_law_steps {f : Addr} {fd : FuncData} (T : Txt mg) (F : Fun K "_law_steps" "_law_steps" s_law_steps f fd) (gm : mg "_law_steps" = some (.ref f)) (hb : Binds K fd ["_law_places", "_law_work"] []) (D_law_way : DefOk P w K mg base 1 "_law_way" 2 p_law_way) : DefOk P w K mg base 2 "_law_steps" 2 p_law_steps :=
  def_ok F gm sc_law_steps hb rfl (fun cdv A outer s H hr => (sss_cons (ss_set 2 sc_law_steps.nd (ee_op (og_mul .N) (ee_lst .D (ea_cons (ee_ix (ee_ix (ev 0) ei) ei) ea_nil)) (ee_op (og_add .D) (ev 1) ei))) (sss_cons (ss_for (ei_zip T.m_zip (ea_cons (ev 0) (ea_cons (ee_sl .D (ev 0) (eo_some ei) eo_none) ea_nil))) (eg_tup (egs_cons (eg_name 3 sc_law_steps.nd) (egs_cons (eg_name 4 sc_law_steps.nd) egs_nil))) (sss_cons (ss_set 5 sc_law_steps.nd (ee_ix (ev 3) ei)) (sss_cons (ss_for (ei_r1 T.m_range (ea_cons (ee_call (D_law_way.mono (by first | omega | exact Nat.le_refl _)) hr (ea_cons (ev 3) (ea_cons (ev 4) ea_nil))) ea_nil)) (eg_name 6 sc_law_steps.nd) (sss_cons (ss_set 5 sc_law_steps.nd (ee_op og_sub (ee_op (og_add .D) (ev 5) (ee_cty cg_int T.m_int (ea_cons (ee_cmp og_ltI (ev 5) (ee_ix (ev 4) ei)) ea_nil))) (ee_cty cg_int T.m_int (ea_cons (ee_cmp og_gtI (ev 5) (ee_ix (ev 4) ei)) ea_nil)))) (sss_one (ss_expr (ee_append (ev 2) (ea_cons (ev 5) ea_nil)))))) (sss_one (ss_set 2 sc_law_steps.nd (ee_op (og_add .N) (ev 2) (ee_op (og_mul .D) (ee_lst .D (ea_cons (ev 5) ea_nil)) (ev 1)))))))) (sss_frz 2 (sss_one (ss_ret (ee_frz (ev 2)))))))) (does_of _ _ _ _)
theorem ok_law_right {f : Addr} {fd : FuncData} (T : Txt mg) (F : Fun K "_law_right" "_law_right" s_law_right f fd) (gm : mg "_law_right" = some (.ref f)) (hb : Binds K fd ["_law_box_here"] []) (D_law_take : DefOk P w K mg base 1 "_law_take" 2 p_law_take) (D_law_spots : DefOk P w K mg base 3 "_law_spots" 1 p_law_spots) (D_law_way : DefOk P w K mg base 1 "_law_way" 2 p_law_way) (D_law_steps : DefOk P w K mg base 2 "_law_steps" 2 p_law_steps) (D_track_by : DefOk P w K mg base 3 "track_by" 2 p_track_by) (D_law_same : DefOk P w K mg base 13 "_law_same" 2 p_law_same) (D_is_track : DefOk P w K mg base 2 "is_track" 1 p_is_track) : DefOk P w K mg base 14 "_law_right" 1 p_law_right :=
  def_ok F gm sc_law_right hb rfl (fun cdv A outer s H hr => (sss_cons (ss_par 1 2 sc_law_right.nd (ea_cons (ee_call (D_law_spots.mono (by first | omega | exact Nat.le_refl _)) hr (ea_cons (ev 0) ea_nil)) (ea_cons (ee_ix (ee_lst .D (ea_cons ei (ea_cons ei (ea_cons (ee_call (D_law_take.mono (by first | omega | exact Nat.le_refl _)) hr (ea_cons (ev 0) (ea_cons ei ea_nil))) ea_nil)))) (ee_call (D_law_take.mono (by first | omega | exact Nat.le_refl _)) hr (ea_cons (ev 0) (ea_cons ei ea_nil)))) ea_nil))) (sss_cons (ss_par 3 4 sc_law_right.nd (ea_cons (ee_cty (cg_strA hr) T.m_str (ea_cons (ev 1) ea_nil)) (ea_cons (ee_ix (ee_lst .D (ea_cons ei (ea_cons (ee_op (og_add .D) (ev 2) ei) (ea_cons ei ea_nil)))) (ee_call (D_law_take.mono (by first | omega | exact Nat.le_refl _)) hr (ea_cons (ev 0) (ea_cons ei ea_nil)))) ea_nil))) (sss_cons (ss_set 7 sc_law_right.nd (ee_cb cg_sum T.m_sum (ea_cons (ee_lc .D [("_law_one", 5), ("_law_other", 6)] sc_law_right.nd (ei_zip T.m_zip (ea_cons (ev 1) (ea_cons (ee_sl .D (ev 1) (eo_some ei) eo_none) ea_nil))) (blkOk_by (N := ["_law_box_here", "_law_places", "_law_work", "_law_kept", "_law_more", "_law_one", "_law_other", "_law_total", "_law_ticks", "_law_found", "_law_due"]) (sc := defScope s_law_right) (by decide +kernel)) (lct_tup 2 [5, 6]) (fun _ _ _ _ _ => pg_tup rfl (pgs_cons (pg_name (i := 5) sc_law_right.nd rfl (by first | exact Or.inl rfl | exact Or.inr rfl)) (pgs_cons (pg_name (i := 6) sc_law_right.nd rfl (by first | exact Or.inl rfl | exact Or.inr rfl)) pgs_nil))) (fun _ _ _ _ _ => ets_nil) (fun _ _ _ _ _ => (ee_call (D_law_way.mono (by first | omega | exact Nat.le_refl _)) hr (ea_cons (ev 5) (ea_cons (ev 6) ea_nil))))) ea_nil))) (sss_cons (ss_for (ei_seq (ee_tup (ea_cons (ev 2) (ea_cons (ee_cb cg_min2 T.m_min (ea_cons ei (ea_cons (ev 4) ea_nil))) (ea_cons (ev 2) ea_nil))))) (eg_name 8 sc_law_right.nd) (sss_cons (ss_par 9 10 sc_law_right.nd (ea_cons (ee_call (D_track_by.mono (by first | omega | exact Nat.le_refl _)) hr (ea_cons (ev 1) (ea_cons (ev 8) ea_nil))) (ea_cons (ee_call (D_law_steps.mono (by first | omega | exact Nat.le_refl _)) hr (ea_cons (ev 1) (ea_cons (ev 8) ea_nil))) ea_nil))) (sss_cons (ss_if (et_bo (ew_or (et_not (et_val (ee_call (D_law_same.mono (by first | omega | exact Nat.le_refl _)) hr (ea_cons (ev 9) (ea_cons (ev 10) ea_nil))))) (ew_or (et_cmp (og_ne hr.room) (ee_cb cg_len T.m_len (ea_cons (ev 9) ea_nil)) (ee_op (og_add .D) (ee_op (og_add .D) ei (ee_op (og_mul .D) (ev 8) (ee_cb cg_len T.m_len (ea_cons (ev 1) ea_nil)))) (ev 7))) (ew_or1 (et_cmp (og_ne hr.room) (ee_cty (cg_strA hr) T.m_str (ea_cons (ev 1) ea_nil)) (ev 3)))))) (sss_one (ss_ret ebl)) sss_nil) (sss_cons (ss_if (et_cmp og_isnotB (ee_call (D_is_track.mono (by first | omega | exact Nat.le_refl _)) hr (ea_cons (ev 9) ea_nil)) ebl) (sss_one (ss_ret ebl)) sss_nil) (sss_cons (ss_expr (ee_append (ev 9) (ea_cons (ee_op (og_add .D) (ee_ix (ev 9) (ee_neg ei)) ei) ea_nil))) (sss_frz 9 (sss_one (ss_if (et_cmp og_isnotB (ee_call (D_is_track.mono (by first | omega | exact Nat.le_refl _)) hr (ea_cons (ev 9) ea_nil)) ebl) (sss_one (ss_ret ebl)) sss_nil)))))))) (sss_one (ss_ret ebl))))))) (does_of _ _ _ _)
theorem ok_law {f : Addr} {fd : FuncData} (T : Txt mg) (F : Fun K "law" "law" s_law f fd) (gm : mg "law" = some (.ref f)) (hb : Binds K fd ["_law_script"] []) (D_law_folded : DefOk P w K mg base 1 "_law_folded" 2 p_law_folded) (D_law_right : DefOk P w K mg base 14 "_law_right" 1 p_law_right) (D_law_box : DefOk P w K mg base 1 "_law_box" 2 p_law_box) : DefOk P w K mg base 15 "law" 1 p_law :=
  def_ok F gm sc_law hb rfl (fun cdv A outer s H hr => (sss_cons (ss_set 1 sc_law.nd (ee_call (D_law_folded.mono (by first | omega | exact Nat.le_refl _)) hr (ea_cons (ev 0) (ea_cons ei ea_nil)))) (sss_one (ss_ret (ee_cb cg_all T.m_all (ea_cons (ee_lc .D [("_law_k", 2)] sc_law.nd (ei_r1 T.m_range (ea_cons (ee_cb cg_max2 T.m_max (ea_cons ei (ea_cons (ee_cb cg_len T.m_len (ea_cons (ev 1) ea_nil)) ea_nil))) ea_nil)) (blkOk_by (N := ["_law_script", "_law_cells", "_law_k"]) (sc := defScope s_law) (by decide +kernel)) (.name 2 (by decide)) (fun _ _ _ _ _ => pg_name (i := 2) sc_law.nd rfl (by first | exact Or.inl rfl | exact Or.inr rfl)) (fun _ _ _ _ _ => ets_nil) (fun _ _ _ _ _ => (ee_call (D_law_right.mono (by first | omega | exact Nat.le_refl _)) hr (ea_cons (ee_call (D_law_box.mono (by first | omega | exact Nat.le_refl _)) hr (ea_cons (ev 1) (ea_cons (ev 2) ea_nil))) ea_nil)))) ea_nil)))))) (does_of _ _ _ _)
theorem all_ok {h : Heap} (X : K.In h) (G : h.Ns mainGlobals mg)
    {a0 a1 a2 a3 a4 a5 a6 a7 a8 a9 a10 a11 a12 a13 a14 a15 : Addr}
    {od0 an0 od1 an1 od2 an2 od3 an3 od4 an4 od5 an5 od6 an6 od7 an7 od8 an8 od9 an9 od10 an10 od11 an11 od12 an12 od13 an13 od14 an14 od15 an15 : Option Addr}
    {sl0 sl1 sl2 sl3 sl4 sl5 sl6 sl7 sl8 sl9 sl10 sl11 sl12 sl13 sl14 sl15 : Array (Option Value)}
    {oc0 kv0 dc0 pm0 cd0 ct0 oc1 kv1 dc1 pm1 cd1 ct1 oc2 kv2 dc2 pm2 cd2 ct2 oc3 kv3 dc3 pm3 cd3 ct3 oc4 kv4 dc4 pm4 cd4 ct4 oc5 kv5 dc5 pm5 cd5 ct5 oc6 kv6 dc6 pm6 cd6 ct6 oc7 kv7 dc7 pm7 cd7 ct7 oc8 kv8 dc8 pm8 cd8 ct8 oc9 kv9 dc9 pm9 cd9 ct9 oc10 kv10 dc10 pm10 cd10 ct10 oc11 kv11 dc11 pm11 cd11 ct11 oc12 kv12 dc12 pm12 cd12 ct12 oc13 kv13 dc13 pm13 cd13 ct13 oc14 kv14 dc14 pm14 cd14 ct14 oc15 kv15 dc15 pm15 cd15 ct15 : Value}
    (g0 : PySem.W.nsIn K mainGlobals "is_number" = some (some (.ref a0))) (l0 : K.lookup a0 = some ⟨oc0, od0, .func (PySem.W.fnOf "is_number" "is_number" (defArgs s_is_number) (defBody s_is_number) (defScope s_is_number) .none kv0 dc0 pm0 an0 cd0 ct0), sl0⟩) (c0 : PySem.W.codeIn K cd0 "is_number" = true) (k0 : PySem.W.keepIn K (.ref a0) = true)
    (g1 : PySem.W.nsIn K mainGlobals "way_between" = some (some (.ref a1))) (l1 : K.lookup a1 = some ⟨oc1, od1, .func (PySem.W.fnOf "way_between" "way_between" (defArgs s_way_between) (defBody s_way_between) (defScope s_way_between) .none kv1 dc1 pm1 an1 cd1 ct1), sl1⟩) (c1 : PySem.W.codeIn K cd1 "way_between" = true) (k1 : PySem.W.keepIn K (.ref a1) = true)
    (g2 : PySem.W.nsIn K mainGlobals "side_behind" = some (some (.ref a2))) (l2 : K.lookup a2 = some ⟨oc2, od2, .func (PySem.W.fnOf "side_behind" "side_behind" (defArgs s_side_behind) (defBody s_side_behind) (defScope s_side_behind) .none kv2 dc2 pm2 an2 cd2 ct2), sl2⟩) (c2 : PySem.W.codeIn K cd2 "side_behind" = true) (k2 : PySem.W.keepIn K (.ref a2) = true)
    (g3 : PySem.W.nsIn K mainGlobals "going_to" = some (some (.ref a3))) (l3 : K.lookup a3 = some ⟨oc3, od3, .func (PySem.W.fnOf "going_to" "going_to" (defArgs s_going_to) (defBody s_going_to) (defScope s_going_to) .none kv3 dc3 pm3 an3 cd3 ct3), sl3⟩) (c3 : PySem.W.codeIn K cd3 "going_to" = true) (k3 : PySem.W.keepIn K (.ref a3) = true)
    (g4 : PySem.W.nsIn K mainGlobals "is_track" = some (some (.ref a4))) (l4 : K.lookup a4 = some ⟨oc4, od4, .func (PySem.W.fnOf "is_track" "is_track" (defArgs s_is_track) (defBody s_is_track) (defScope s_is_track) .none kv4 dc4 pm4 an4 cd4 ct4), sl4⟩) (c4 : PySem.W.codeIn K cd4 "is_track" = true) (k4 : PySem.W.keepIn K (.ref a4) = true)
    (g5 : PySem.W.nsIn K mainGlobals "track_by" = some (some (.ref a5))) (l5 : K.lookup a5 = some ⟨oc5, od5, .func (PySem.W.fnOf "track_by" "track_by" (defArgs s_track_by) (defBody s_track_by) (defScope s_track_by) .none kv5 dc5 pm5 an5 cd5 ct5), sl5⟩) (c5 : PySem.W.codeIn K cd5 "track_by" = true) (k5 : PySem.W.keepIn K (.ref a5) = true)
    (g6 : PySem.W.nsIn K mainGlobals "_law_box" = some (some (.ref a6))) (l6 : K.lookup a6 = some ⟨oc6, od6, .func (PySem.W.fnOf "_law_box" "_law_box" (defArgs s_law_box) (defBody s_law_box) (defScope s_law_box) .none kv6 dc6 pm6 an6 cd6 ct6), sl6⟩) (c6 : PySem.W.codeIn K cd6 "_law_box" = true) (k6 : PySem.W.keepIn K (.ref a6) = true)
    (g7 : PySem.W.nsIn K mainGlobals "_law_take" = some (some (.ref a7))) (l7 : K.lookup a7 = some ⟨oc7, od7, .func (PySem.W.fnOf "_law_take" "_law_take" (defArgs s_law_take) (defBody s_law_take) (defScope s_law_take) .none kv7 dc7 pm7 an7 cd7 ct7), sl7⟩) (c7 : PySem.W.codeIn K cd7 "_law_take" = true) (k7 : PySem.W.keepIn K (.ref a7) = true)
    (g8 : PySem.W.nsIn K mainGlobals "_law_folded" = some (some (.ref a8))) (l8 : K.lookup a8 = some ⟨oc8, od8, .func (PySem.W.fnOf "_law_folded" "_law_folded" (defArgs s_law_folded) (defBody s_law_folded) (defScope s_law_folded) .none kv8 dc8 pm8 an8 cd8 ct8), sl8⟩) (c8 : PySem.W.codeIn K cd8 "_law_folded" = true) (k8 : PySem.W.keepIn K (.ref a8) = true)
    (g9 : PySem.W.nsIn K mainGlobals "_law_same" = some (some (.ref a9))) (l9 : K.lookup a9 = some ⟨oc9, od9, .func (PySem.W.fnOf "_law_same" "_law_same" (defArgs s_law_same) (defBody s_law_same) (defScope s_law_same) .none kv9 dc9 pm9 an9 cd9 ct9), sl9⟩) (c9 : PySem.W.codeIn K cd9 "_law_same" = true) (k9 : PySem.W.keepIn K (.ref a9) = true)
    (g10 : PySem.W.nsIn K mainGlobals "_law_place" = some (some (.ref a10))) (l10 : K.lookup a10 = some ⟨oc10, od10, .func (PySem.W.fnOf "_law_place" "_law_place" (defArgs s_law_place) (defBody s_law_place) (defScope s_law_place) .none kv10 dc10 pm10 an10 cd10 ct10), sl10⟩) (c10 : PySem.W.codeIn K cd10 "_law_place" = true) (k10 : PySem.W.keepIn K (.ref a10) = true)
    (g11 : PySem.W.nsIn K mainGlobals "_law_way" = some (some (.ref a11))) (l11 : K.lookup a11 = some ⟨oc11, od11, .func (PySem.W.fnOf "_law_way" "_law_way" (defArgs s_law_way) (defBody s_law_way) (defScope s_law_way) .none kv11 dc11 pm11 an11 cd11 ct11), sl11⟩) (c11 : PySem.W.codeIn K cd11 "_law_way" = true) (k11 : PySem.W.keepIn K (.ref a11) = true)
    (g12 : PySem.W.nsIn K mainGlobals "_law_spots" = some (some (.ref a12))) (l12 : K.lookup a12 = some ⟨oc12, od12, .func (PySem.W.fnOf "_law_spots" "_law_spots" (defArgs s_law_spots) (defBody s_law_spots) (defScope s_law_spots) .none kv12 dc12 pm12 an12 cd12 ct12), sl12⟩) (c12 : PySem.W.codeIn K cd12 "_law_spots" = true) (k12 : PySem.W.keepIn K (.ref a12) = true)
    (g13 : PySem.W.nsIn K mainGlobals "_law_steps" = some (some (.ref a13))) (l13 : K.lookup a13 = some ⟨oc13, od13, .func (PySem.W.fnOf "_law_steps" "_law_steps" (defArgs s_law_steps) (defBody s_law_steps) (defScope s_law_steps) .none kv13 dc13 pm13 an13 cd13 ct13), sl13⟩) (c13 : PySem.W.codeIn K cd13 "_law_steps" = true) (k13 : PySem.W.keepIn K (.ref a13) = true)
    (g14 : PySem.W.nsIn K mainGlobals "_law_right" = some (some (.ref a14))) (l14 : K.lookup a14 = some ⟨oc14, od14, .func (PySem.W.fnOf "_law_right" "_law_right" (defArgs s_law_right) (defBody s_law_right) (defScope s_law_right) .none kv14 dc14 pm14 an14 cd14 ct14), sl14⟩) (c14 : PySem.W.codeIn K cd14 "_law_right" = true) (k14 : PySem.W.keepIn K (.ref a14) = true)
    (g15 : PySem.W.nsIn K mainGlobals "law" = some (some (.ref a15))) (l15 : K.lookup a15 = some ⟨oc15, od15, .func (PySem.W.fnOf "law" "law" (defArgs s_law) (defBody s_law) (defScope s_law) .none kv15 dc15 pm15 an15 cd15 ct15), sl15⟩) (c15 : PySem.W.codeIn K cd15 "law" = true) (k15 : PySem.W.keepIn K (.ref a15) = true)
    (z_abs : PySem.W.nsIn K mainGlobals "abs" = some none)
    (z_all : PySem.W.nsIn K mainGlobals "all" = some none)
    (z_bool : PySem.W.nsIn K mainGlobals "bool" = some none)
    (z_divmod : PySem.W.nsIn K mainGlobals "divmod" = some none)
    (z_enumerate : PySem.W.nsIn K mainGlobals "enumerate" = some none)
    (z_int : PySem.W.nsIn K mainGlobals "int" = some none)
    (z_isinstance : PySem.W.nsIn K mainGlobals "isinstance" = some none)
    (z_len : PySem.W.nsIn K mainGlobals "len" = some none)
    (z_list : PySem.W.nsIn K mainGlobals "list" = some none)
    (z_max : PySem.W.nsIn K mainGlobals "max" = some none)
    (z_min : PySem.W.nsIn K mainGlobals "min" = some none)
    (z_range : PySem.W.nsIn K mainGlobals "range" = some none)
    (z_str : PySem.W.nsIn K mainGlobals "str" = some none)
    (z_sum : PySem.W.nsIn K mainGlobals "sum" = some none)
    (z_tuple : PySem.W.nsIn K mainGlobals "tuple" = some none)
    (z_zip : PySem.W.nsIn K mainGlobals "zip" = some none)
    : DefOk P w K mg base 15 "law" 1 p_law := by
  have T : Txt mg := ⟨PySem.W.mg_none_of X G z_abs, PySem.W.mg_none_of X G z_all, PySem.W.mg_none_of X G z_bool, PySem.W.mg_none_of X G z_divmod, PySem.W.mg_none_of X G z_enumerate, PySem.W.mg_none_of X G z_int, PySem.W.mg_none_of X G z_isinstance, PySem.W.mg_none_of X G z_len, PySem.W.mg_none_of X G z_list, PySem.W.mg_none_of X G z_max, PySem.W.mg_none_of X G z_min, PySem.W.mg_none_of X G z_range, PySem.W.mg_none_of X G z_str, PySem.W.mg_none_of X G z_sum, PySem.W.mg_none_of X G z_tuple, PySem.W.mg_none_of X G z_zip⟩
  have F0 := fun_mk (st := s_is_number) l0 c0 k0
  have b0 := F0.binds (ps := ["thing"]) fun _ _ _ _ _ _ us hl => match us, hl with | [_], _ => rfl
  have D_is_number : DefOk P w K mg base 1 "is_number" 1 p_is_number := ok_is_number T F0 (PySem.W.mg_of X G g0) b0 
  have F1 := fun_mk (st := s_way_between) l1 c1 k1
  have b1 := F1.binds (ps := ["one", "other"]) fun _ _ _ _ _ _ us hl => match us, hl with | [_, _], _ => rfl
  have D_way_between : DefOk P w K mg base 1 "way_between" 2 p_way_between := ok_way_between T F1 (PySem.W.mg_of X G g1) b1 
  have F2 := fun_mk (st := s_side_behind) l2 c2 k2
  have b2 := F2.binds (ps := ["one", "other", "ticks"]) fun _ _ _ _ _ _ us hl => match us, hl with | [_, _, _], _ => rfl
  have D_side_behind : DefOk P w K mg base 1 "side_behind" 3 p_side_behind := ok_side_behind T F2 (PySem.W.mg_of X G g2) b2 
  have F3 := fun_mk (st := s_going_to) l3 c3 k3
  have b3 := F3.binds (ps := ["one", "other", "ticks"]) fun _ _ _ _ _ _ us hl => match us, hl with | [_, _, _], _ => rfl
  have D_going_to : DefOk P w K mg base 2 "going_to" 3 p_going_to := ok_going_to T F3 (PySem.W.mg_of X G g3) b3 D_side_behind
  have F4 := fun_mk (st := s_is_track) l4 c4 k4
  have b4 := F4.binds (ps := ["thing"]) fun _ _ _ _ _ _ us hl => match us, hl with | [_], _ => rfl
  have D_is_track : DefOk P w K mg base 2 "is_track" 1 p_is_track := ok_is_track T F4 (PySem.W.mg_of X G g4) b4 D_is_number
  have F5 := fun_mk (st := s_track_by) l5 c5 k5
  have b5 := F5.binds (ps := ["places", "work"]) fun _ _ _ _ _ _ us hl => match us, hl with | [_, _], _ => rfl
  have D_track_by : DefOk P w K mg base 3 "track_by" 2 p_track_by := ok_track_by T F5 (PySem.W.mg_of X G g5) b5 D_way_between D_going_to
  have F6 := fun_mk (st := s_law_box) l6 c6 k6
  have b6 := F6.binds (ps := ["_law_script", "_law_k"]) fun _ _ _ _ _ _ us hl => match us, hl with | [_, _], _ => rfl
  have D_law_box : DefOk P w K mg base 1 "_law_box" 2 p_law_box := ok_law_box T F6 (PySem.W.mg_of X G g6) b6 
  have F7 := fun_mk (st := s_law_take) l7 c7 k7
  have b7 := F7.binds (ps := ["_law_box_here", "_law_size"]) fun _ _ _ _ _ _ us hl => match us, hl with | [_, _], _ => rfl
  have D_law_take : DefOk P w K mg base 1 "_law_take" 2 p_law_take := ok_law_take T F7 (PySem.W.mg_of X G g7) b7 
  have F8 := fun_mk (st := s_law_folded) l8 c8 k8
  have b8 := F8.binds (ps := ["_law_script", "_law_size"]) fun _ _ _ _ _ _ us hl => match us, hl with | [_, _], _ => rfl
  have D_law_folded : DefOk P w K mg base 1 "_law_folded" 2 p_law_folded := ok_law_folded T F8 (PySem.W.mg_of X G g8) b8 
  have F9 := fun_mk (st := s_law_same) l9 c9 k9
  have b9 := F9.binds (ps := ["_law_found", "_law_due"]) fun _ _ _ _ _ _ us hl => match us, hl with | [_, _], _ => rfl
  have D_law_same : DefOk P w K mg base 13 "_law_same" 2 p_law_same := ok_law_same T F9 (PySem.W.mg_of X G g9) b9  12
  have F10 := fun_mk (st := s_law_place) l10 c10 k10
  have b10 := F10.binds (ps := ["_law_box_here", "_law_taken"]) fun _ _ _ _ _ _ us hl => match us, hl with | [_, _], _ => rfl
  have D_law_place : DefOk P w K mg base 2 "_law_place" 2 p_law_place := ok_law_place T F10 (PySem.W.mg_of X G g10) b10 D_law_take
  have F11 := fun_mk (st := s_law_way) l11 c11 k11
  have b11 := F11.binds (ps := ["_law_one", "_law_other"]) fun _ _ _ _ _ _ us hl => match us, hl with | [_, _], _ => rfl
  have D_law_way : DefOk P w K mg base 1 "_law_way" 2 p_law_way := ok_law_way T F11 (PySem.W.mg_of X G g11) b11 
  have F12 := fun_mk (st := s_law_spots) l12 c12 k12
  have b12 := F12.binds (ps := ["_law_box_here"]) fun _ _ _ _ _ _ us hl => match us, hl with | [_], _ => rfl
  have D_law_spots : DefOk P w K mg base 3 "_law_spots" 1 p_law_spots := ok_law_spots T F12 (PySem.W.mg_of X G g12) b12 D_law_take D_law_place
  have F13 := fun_mk (st := s_law_steps) l13 c13 k13
  have b13 := F13.binds (ps := ["_law_places", "_law_work"]) fun _ _ _ _ _ _ us hl => match us, hl with | [_, _], _ => rfl
  have D_law_steps : DefOk P w K mg base 2 "_law_steps" 2 p_law_steps := ok_law_steps T F13 (PySem.W.mg_of X G g13) b13 D_law_way
  have F14 := fun_mk (st := s_law_right) l14 c14 k14
  have b14 := F14.binds (ps := ["_law_box_here"]) fun _ _ _ _ _ _ us hl => match us, hl with | [_], _ => rfl
  have D_law_right : DefOk P w K mg base 14 "_law_right" 1 p_law_right := ok_law_right T F14 (PySem.W.mg_of X G g14) b14 D_law_take D_law_spots D_law_way D_law_steps D_track_by D_law_same D_is_track
  have F15 := fun_mk (st := s_law) l15 c15 k15
  have b15 := F15.binds (ps := ["_law_script"]) fun _ _ _ _ _ _ us hl => match us, hl with | [_], _ => rfl
  have D_law : DefOk P w K mg base 15 "law" 1 p_law := ok_law T F15 (PySem.W.mg_of X G g15) b15 D_law_folded D_law_right D_law_box
  exact D_law
end
end QW

namespace QW
open PySem PySem.Spec PyProof.Rows L2 QL
theorem take_ok {S : Sto} {k N : Nat} {n : Int} (h : Bx N S k) (hN : N < 1099511627776) (h1 : 0 < n) (h2 : n < 1073741824) :
    wp (p_law_take [.c k, .d (.int n)] S) fun r S' => ∃ x, r = .d x ∧ Dr k (N + 1) S S' ∧ ∃ i : Int, x = .int i ∧ 0 ≤ i ∧ i < n := by
  have hb := h
  obtain ⟨a, b, c, e, a0, b0, b1, c0, c1⟩ := h
  unfold p_law_take
  refine w_fnD hb ?_
  show wpS (f_law_take [some (.c k), some (.d (.int n)), none, none, none, none] S) _
  unfold f_law_take
  unfold boxC at e
  simp only [w_seq, w_nil, w_ret, w_expr, w_asg, w_if, x_par, kPar_eq, Bool.false_xor, Bool.true_xor, w_for, w_c, w_bin, w_aNil, w_aCons, w_cb, w_call, w_tst, w_not, w_and, w_or, w_eif, w_frzE, x_eAnd, x_eOr, bif2_d, w_eNot, w_eNeg, x_chain, w_mt, w_isi, w_lst, w_tup, w_eSl, w_oSo, w_oNo, eVar, wp_some, wp_bnd, wp_map, wpS_some, bnd_some, kSeq_nx, kSeq_rt, kSeq_bk, kSeq_ct, q_addI, q_sub, q_lt, q_gt, q_ge, q_le, q_eqI, q_neI, q_abs, q_max, q_min, q_intI, q_intB, q_lenL, q_lenT, q_ixL, q_ixT, q_gN, q_gsNil, w_gsCons, w_gSub2, q_frzD, List.getElem?_cons_zero, List.getElem?_cons_succ, List.set_cons_zero, List.set_cons_succ, List.length_cons, List.length_nil, if_true, Option.map_some, decide_eq_true_eq, decide_eq_false_iff_not, decide_true, decide_false, Bool.false_eq_true, if_false, forall_const, true_implies, false_implies, and_true, true_and, reduceIte, reduceCtorEq, List.length_map, w_mulI, w_modI, w_divI, w_divmod, w_pow, at_0, at_1, at_2, Option.some.injEq, exists_eq_left', exists_eq_left, false_and, or_false, PyData.int.injEq, wp_none, wpS_none, imp_false, Decidable.not_not, sizeLine_eq, Nat.reduceAdd, not_true_eq_false, not_false_eq_true, wp_ite, w_atD, look_d, List.any_cons, List.any_nil, isT, tyN, String.reduceBEq, Bool.or_false, Bool.false_or, Bool.true_or, Bool.or_true, Bool.and_false, Bool.false_and, Bool.true_and, Bool.and_true, beq_self_eq_true, isNo, q_is, q_isnot, q_eqB, q_neB, q_eqS, q_neS, w_lc, wipeR, gsN, zipD_len, enumD_len, rng_len, Option.isSome_some, Int.zero_add, viewL, viewS, w_forN, w_forC, kFor_nx, kFor_ct, kFor_bk, kFor_rt, x_lcD, x_jSq, kSq, x_jZp, jZ0_T, jZ0_L, kR1_eq, kR2_eq, kEn_eq, kZp_eq, kZp_T, x_iR1, x_iR2, x_iEn, x_iZp, x_iSq, it_L, it_T, x_slL, q_slS, q_listD, q_listN, q_listNT, q_listDT, q_tupL, q_tupT, PyData.list.injEq, PyData.tuple.injEq, w_frzM, exists_eq, exists_eq', q_gTu2, q_gTu3, Int.reducePow, q_intB, q_mkT0, q_mkT1, q_mkT2, q_mkT3, q_alD0, q_alD1, q_alD2, q_alD3, q_alD4, alloc_N, Int.reduceLT, Int.reduceLE, Nat.reduceLT, Nat.reduceLeDiff, Int.reduceToNat, or_true, true_or, Fl.rt.injEq, Val.d.injEq, Bool.not_true, Bool.not_false, q_ixC e, set_0 e, set_2 e, q_ixC (get_set e)]
  refine ⟨fun ha => ⟨⟨h1, h2⟩, ?_, Int.emod_nonneg _ (by omega), Int.emod_lt_of_pos _ h1⟩, fun ha => ⟨by omega, .inl (by omega), .inl (by omega), .inl (by omega), h1, ?_, Int.emod_nonneg _ (by omega), Int.emod_lt_of_pos _ h1⟩⟩
  · exact (Dr.set (N := N + 1) hb (Int.ediv_nonneg (by omega) (by omega)) b0 b1 c0 (by omega)).gr
  · exact (Dr.set (N := N + 1) hb a0 b0 b1 (by omega) (by omega)).gr
theorem take_i {S : Sto} {k N : Nat} {n : Int} {Q : Val → Sto → Prop} (h : Bx N S k) (hN : N < 1099511627776) (h1 : 0 < n) (h2 : n < 1073741824)
    (q : ∀ (i : Int) S', 0 ≤ i → i < n → Dr k (N + 1) S S' → Q (.d (.int i)) S') : wp (p_law_take [.c k, .d (.int n)] S) Q := by
  refine wp_mono (take_ok h hN h1 h2) fun r S' z => ?_
  obtain ⟨x, rfl, g, i, rfl, i0, i1⟩ := z
  exact q i S' i0 i1 g

end QW

namespace QW
open PySem PySem.Spec PyProof.Rows L2 QL
theorem box_ok {ns : List Int} {S : Sto} {k : Int} (h0 : 0 ≤ k) (h1 : k < 1000000) :
    wp (p_law_box [.d (.list (ns.map .int)), .d (.int k)] S) fun r S' => r = .c S.length ∧ ∃ ds : List PyData, S' = S ++ [.lst (ds.map .d)] ∧ Bx 0 S' S.length := by
  have fin : ∀ i a : Int, 0 ≤ a → Bx 0 (S ++ [.lst [.d (.int a), .d (.int ((i % 2147483629 + 15485863 * k + 37) * 48271 % 2147483647)), .d (.int 0)]]) S.length := fun i a ha =>
    ⟨a, _, 0, get_new _ _, ha, Int.emod_nonneg _ (by omega), by omega, by omega, by omega⟩
  refine wp_mono (Q := fun r S' => r = .c S.length ∧ ∃ ds : List PyData, S' = S ++ [.lst (ds.map .d)] ∧ Bx 0 (S ++ [.lst (ds.map .d)]) S.length) ?_ fun r S' ⟨h, ds, e, b⟩ => ⟨h, ds, e, by rw [e]; exact b⟩
  unfold p_law_box
  refine w_fnC ?_
  show wpS (f_law_box [some (.d (.list (ns.map .int))), some (.d (.int k)), none] S) _
  unfold f_law_box
  simp only [w_seq, w_nil, w_ret, w_expr, w_asg, w_if, x_par, kPar_eq, Bool.false_xor, Bool.true_xor, w_for, w_c, w_bin, w_aNil, w_aCons, w_cb, w_call, w_tst, w_not, w_and, w_or, w_eif, w_frzE, x_eAnd, x_eOr, bif2_d, w_eNot, w_eNeg, x_chain, w_mt, w_isi, w_lst, w_tup, w_eSl, w_oSo, w_oNo, eVar, wp_some, wp_bnd, wp_map, wpS_some, bnd_some, kSeq_nx, kSeq_rt, kSeq_bk, kSeq_ct, q_addI, q_sub, q_lt, q_gt, q_ge, q_le, q_eqI, q_neI, q_abs, q_max, q_min, q_intI, q_intB, q_lenL, q_lenT, q_ixL, q_ixT, q_gN, q_gsNil, w_gsCons, w_gSub2, q_frzD, List.getElem?_cons_zero, List.getElem?_cons_succ, List.set_cons_zero, List.set_cons_succ, List.length_cons, List.length_nil, if_true, Option.map_some, decide_eq_true_eq, decide_eq_false_iff_not, decide_true, decide_false, Bool.false_eq_true, if_false, forall_const, true_implies, false_implies, and_true, true_and, reduceIte, reduceCtorEq, List.length_map, w_mulI, w_modI, w_divI, w_divmod, w_pow, at_0, at_1, at_2, Option.some.injEq, exists_eq_left', exists_eq_left, false_and, or_false, PyData.int.injEq, wp_none, wpS_none, imp_false, Decidable.not_not, sizeLine_eq, Nat.reduceAdd, not_true_eq_false, not_false_eq_true, wp_ite, w_atD, look_d, List.any_cons, List.any_nil, isT, tyN, String.reduceBEq, Bool.or_false, Bool.false_or, Bool.true_or, Bool.or_true, Bool.and_false, Bool.false_and, Bool.true_and, Bool.and_true, beq_self_eq_true, isNo, q_is, q_isnot, q_eqB, q_neB, q_eqS, q_neS, w_lc, wipeR, gsN, zipD_len, enumD_len, rng_len, Option.isSome_some, Int.zero_add, viewL, viewS, w_forN, w_forC, kFor_nx, kFor_ct, kFor_bk, kFor_rt, x_lcD, x_jSq, kSq, x_jZp, jZ0_T, jZ0_L, kR1_eq, kR2_eq, kEn_eq, kZp_eq, kZp_T, x_iR1, x_iR2, x_iEn, x_iZp, x_iSq, it_L, it_T, x_slL, q_slS, q_listD, q_listN, q_listNT, q_listDT, q_tupL, q_tupT, PyData.list.injEq, PyData.tuple.injEq, w_frzM, exists_eq, exists_eq', q_gTu2, q_gTu3, Int.reducePow, q_intB, q_mkT0, q_mkT1, q_mkT2, q_mkT3, q_alD0, q_alD1, q_alD2, q_alD3, q_alD4, alloc_N, Int.reduceLT, Int.reduceLE, Nat.reduceLT, Nat.reduceLeDiff, Int.reduceToNat, or_true, true_or, Fl.rt.injEq, Val.d.injEq, Bool.not_true, Bool.not_false]
  refine ⟨fun hk => ?_, fun hk => ?_⟩
  · have hk2 : k < (ns.map PyData.int).length := by rw [List.length_map]; exact hk
    refine ⟨_, at_in h0 hk2, ?_⟩
    rw [List.getElem_map]
    generalize ns[k.toNat]'_ = i
    simp only [w_seq, w_nil, w_ret, w_expr, w_asg, w_if, x_par, kPar_eq, Bool.false_xor, Bool.true_xor, w_for, w_c, w_bin, w_aNil, w_aCons, w_cb, w_call, w_tst, w_not, w_and, w_or, w_eif, w_frzE, x_eAnd, x_eOr, bif2_d, w_eNot, w_eNeg, x_chain, w_mt, w_isi, w_lst, w_tup, w_eSl, w_oSo, w_oNo, eVar, wp_some, wp_bnd, wp_map, wpS_some, bnd_some, kSeq_nx, kSeq_rt, kSeq_bk, kSeq_ct, q_addI, q_sub, q_lt, q_gt, q_ge, q_le, q_eqI, q_neI, q_abs, q_max, q_min, q_intI, q_intB, q_lenL, q_lenT, q_ixL, q_ixT, q_gN, q_gsNil, w_gsCons, w_gSub2, q_frzD, List.getElem?_cons_zero, List.getElem?_cons_succ, List.set_cons_zero, List.set_cons_succ, List.length_cons, List.length_nil, if_true, Option.map_some, decide_eq_true_eq, decide_eq_false_iff_not, decide_true, decide_false, Bool.false_eq_true, if_false, forall_const, true_implies, false_implies, and_true, true_and, reduceIte, reduceCtorEq, List.length_map, w_mulI, w_modI, w_divI, w_divmod, w_pow, at_0, at_1, at_2, Option.some.injEq, exists_eq_left', exists_eq_left, false_and, or_false, PyData.int.injEq, wp_none, wpS_none, imp_false, Decidable.not_not, sizeLine_eq, Nat.reduceAdd, not_true_eq_false, not_false_eq_true, wp_ite, w_atD, look_d, List.any_cons, List.any_nil, isT, tyN, String.reduceBEq, Bool.or_false, Bool.false_or, Bool.true_or, Bool.or_true, Bool.and_false, Bool.false_and, Bool.true_and, Bool.and_true, beq_self_eq_true, isNo, q_is, q_isnot, q_eqB, q_neB, q_eqS, q_neS, w_lc, wipeR, gsN, zipD_len, enumD_len, rng_len, Option.isSome_some, Int.zero_add, viewL, viewS, w_forN, w_forC, kFor_nx, kFor_ct, kFor_bk, kFor_rt, x_lcD, x_jSq, kSq, x_jZp, jZ0_T, jZ0_L, kR1_eq, kR2_eq, kEn_eq, kZp_eq, kZp_T, x_iR1, x_iR2, x_iEn, x_iZp, x_iSq, it_L, it_T, x_slL, q_slS, q_listD, q_listN, q_listNT, q_listDT, q_tupL, q_tupT, PyData.list.injEq, PyData.tuple.injEq, w_frzM, exists_eq, exists_eq', q_gTu2, q_gTu3, Int.reducePow, q_intB, q_mkT0, q_mkT1, q_mkT2, q_mkT3, q_alD0, q_alD1, q_alD2, q_alD3, q_alD4, alloc_N, Int.reduceLT, Int.reduceLE, Nat.reduceLT, Nat.reduceLeDiff, Int.reduceToNat, or_true, true_or, Fl.rt.injEq, Val.d.injEq, Bool.not_true, Bool.not_false]
    refine ⟨by decide, .inr ⟨by split <;> omega, by split <;> omega⟩, [_, _, _], rfl, fin i _ (Int.mul_nonneg (by split <;> omega) (by split <;> omega))⟩
  · refine ⟨by decide, [_, _, _], rfl, fin 0 _ (by decide)⟩

end QW

namespace QW
open PySem PySem.Spec PyProof.Rows L2 QL
theorem folded_ok {ns : List Int} {S : Sto} {n : Int} (h0 : 0 < n) (h1 : n < 1000000) :
    wp (p_law_folded [.s ns, .d (.int n)] S) fun r S' => ∃ x, r = .d x ∧ S' = S ∧ ∃ ms : List Int, x = .list (ms.map .int) ∧ ms.length ≤ n.toNat := by
  unfold p_law_folded
  refine w_fnP ?_
  show wpS (f_law_folded [some (.s ns), some (.d (.int n)), none, none, none] S) _
  unfold f_law_folded
  simp only [w_seq, w_nil, w_ret, w_expr, w_asg, w_if, x_par, kPar_eq, Bool.false_xor, Bool.true_xor, w_for, w_c, w_bin, w_aNil, w_aCons, w_cb, w_call, w_tst, w_not, w_and, w_or, w_eif, w_frzE, x_eAnd, x_eOr, bif2_d, w_eNot, w_eNeg, x_chain, w_mt, w_isi, w_lst, w_tup, w_eSl, w_oSo, w_oNo, eVar, wp_some, wp_bnd, wp_map, wpS_some, bnd_some, kSeq_nx, kSeq_rt, kSeq_bk, kSeq_ct, q_addI, q_sub, q_lt, q_gt, q_ge, q_le, q_eqI, q_neI, q_abs, q_max, q_min, q_intI, q_intB, q_lenL, q_lenT, q_ixL, q_ixT, q_gN, q_gsNil, w_gsCons, w_gSub2, q_frzD, List.getElem?_cons_zero, List.getElem?_cons_succ, List.set_cons_zero, List.set_cons_succ, List.length_cons, List.length_nil, if_true, Option.map_some, decide_eq_true_eq, decide_eq_false_iff_not, decide_true, decide_false, Bool.false_eq_true, if_false, forall_const, true_implies, false_implies, and_true, true_and, reduceIte, reduceCtorEq, List.length_map, w_mulI, w_modI, w_divI, w_divmod, w_pow, at_0, at_1, at_2, Option.some.injEq, exists_eq_left', exists_eq_left, false_and, or_false, PyData.int.injEq, wp_none, wpS_none, imp_false, Decidable.not_not, sizeLine_eq, Nat.reduceAdd, not_true_eq_false, not_false_eq_true, wp_ite, w_atD, look_d, List.any_cons, List.any_nil, isT, tyN, String.reduceBEq, Bool.or_false, Bool.false_or, Bool.true_or, Bool.or_true, Bool.and_false, Bool.false_and, Bool.true_and, Bool.and_true, beq_self_eq_true, isNo, q_is, q_isnot, q_eqB, q_neB, q_eqS, q_neS, w_lc, wipeR, gsN, zipD_len, enumD_len, rng_len, Option.isSome_some, Int.zero_add, viewL, viewS, w_forN, w_forC, kFor_nx, kFor_ct, kFor_bk, kFor_rt, x_lcD, x_jSq, kSq, x_jZp, jZ0_T, jZ0_L, kR1_eq, kR2_eq, kEn_eq, kZp_eq, kZp_T, x_iR1, x_iR2, x_iEn, x_iZp, x_iSq, it_L, it_T, x_slL, q_slS, q_listD, q_listN, q_listNT, q_listDT, q_tupL, q_tupT, PyData.list.injEq, PyData.tuple.injEq, w_frzM, exists_eq, exists_eq', q_gTu2, q_gTu3, Int.reducePow, q_intB, q_mkT0, q_mkT1, q_mkT2, q_mkT3, q_alD0, q_alD1, q_alD2, q_alD3, q_alD4, alloc_N, Int.reduceLT, Int.reduceLE, Nat.reduceLT, Nat.reduceLeDiff, Int.reduceToNat, or_true, true_or, Fl.rt.injEq, Val.d.injEq, Bool.not_true, Bool.not_false, cut_to (Int.le_of_lt h0)]
  rw [cut_ft (Int.le_of_lt h0) (by decide)]
  refine w_loop (fun _ ρ S1 => ∃ u v, ∃ ms : List Int, ρ = [some (.s ns), some (.d (.int n)), some (.c S.length), u, v] ∧ S1 = S ++ [.lst ((ms.map PyData.int).map .d)] ∧ ms.length = (ns.take n.toNat).length) ⟨_, _, _, rfl, rfl, rfl⟩ ?_ ?_
  · rintro i d ρ S1 hd ⟨u, v, ms, rfl, rfl, hl⟩
    obtain ⟨y, hy, rfl⟩ := en_get hd
    obtain ⟨x, hx, rfl⟩ := map_get hy
    have hlen := (List.getElem?_eq_some_iff.mp hx).1
    have hm : ms.length = n.toNat := by
      rw [List.length_drop, List.length_take] at hlen
      rw [hl, List.length_take]
      omega
    have p0 : 0 ≤ ((0 + i : Nat) : Int) % n := Int.emod_nonneg _ (by omega)
    have p1 : ((0 + i : Nat) : Int) % n < n := Int.emod_lt_of_pos _ h0
    have hi : i < 63 := by rw [List.length_drop, List.length_take] at hlen; omega
    generalize hj : ((0 + i : Nat) : Int) % n = j at p0 p1
    have pj : j < (ms.map PyData.int).length := by rw [List.length_map]; omega
    simp only [w_seq, w_nil, w_ret, w_expr, w_asg, w_if, x_par, kPar_eq, Bool.false_xor, Bool.true_xor, w_for, w_c, w_bin, w_aNil, w_aCons, w_cb, w_call, w_tst, w_not, w_and, w_or, w_eif, w_frzE, x_eAnd, x_eOr, bif2_d, w_eNot, w_eNeg, x_chain, w_mt, w_isi, w_lst, w_tup, w_eSl, w_oSo, w_oNo, eVar, wp_some, wp_bnd, wp_map, wpS_some, bnd_some, kSeq_nx, kSeq_rt, kSeq_bk, kSeq_ct, q_addI, q_sub, q_lt, q_gt, q_ge, q_le, q_eqI, q_neI, q_abs, q_max, q_min, q_intI, q_intB, q_lenL, q_lenT, q_ixL, q_ixT, q_gN, q_gsNil, w_gsCons, w_gSub2, q_frzD, List.getElem?_cons_zero, List.getElem?_cons_succ, List.set_cons_zero, List.set_cons_succ, List.length_cons, List.length_nil, if_true, Option.map_some, decide_eq_true_eq, decide_eq_false_iff_not, decide_true, decide_false, Bool.false_eq_true, if_false, forall_const, true_implies, false_implies, and_true, true_and, reduceIte, reduceCtorEq, List.length_map, w_mulI, w_modI, w_divI, w_divmod, w_pow, at_0, at_1, at_2, Option.some.injEq, exists_eq_left', exists_eq_left, false_and, or_false, PyData.int.injEq, wp_none, wpS_none, imp_false, Decidable.not_not, sizeLine_eq, Nat.reduceAdd, not_true_eq_false, not_false_eq_true, wp_ite, w_atD, look_d, List.any_cons, List.any_nil, isT, tyN, String.reduceBEq, Bool.or_false, Bool.false_or, Bool.true_or, Bool.or_true, Bool.and_false, Bool.false_and, Bool.true_and, Bool.and_true, beq_self_eq_true, isNo, q_is, q_isnot, q_eqB, q_neB, q_eqS, q_neS, w_lc, wipeR, gsN, zipD_len, enumD_len, rng_len, Option.isSome_some, Int.zero_add, viewL, viewS, w_forN, w_forC, kFor_nx, kFor_ct, kFor_bk, kFor_rt, x_lcD, x_jSq, kSq, x_jZp, jZ0_T, jZ0_L, kR1_eq, kR2_eq, kEn_eq, kZp_eq, kZp_T, x_iR1, x_iR2, x_iEn, x_iZp, x_iSq, it_L, it_T, x_slL, q_slS, q_listD, q_listN, q_listNT, q_listDT, q_tupL, q_tupT, PyData.list.injEq, PyData.tuple.injEq, w_frzM, exists_eq, exists_eq', q_gTu2, q_gTu3, Int.reducePow, q_intB, q_mkT0, q_mkT1, q_mkT2, q_mkT3, q_alD0, q_alD1, q_alD2, q_alD3, q_alD4, alloc_N, Int.reduceLT, Int.reduceLE, Nat.reduceLT, Nat.reduceLeDiff, Int.reduceToNat, or_true, true_or, Fl.rt.injEq, Val.d.injEq, Bool.not_true, Bool.not_false, q_ixC (get_new _ _), hj]
    refine ⟨h0, _, at_in p0 pj, ?_⟩
    rw [List.getElem_map]
    simp only [w_seq, w_nil, w_ret, w_expr, w_asg, w_if, x_par, kPar_eq, Bool.false_xor, Bool.true_xor, w_for, w_c, w_bin, w_aNil, w_aCons, w_cb, w_call, w_tst, w_not, w_and, w_or, w_eif, w_frzE, x_eAnd, x_eOr, bif2_d, w_eNot, w_eNeg, x_chain, w_mt, w_isi, w_lst, w_tup, w_eSl, w_oSo, w_oNo, eVar, wp_some, wp_bnd, wp_map, wpS_some, bnd_some, kSeq_nx, kSeq_rt, kSeq_bk, kSeq_ct, q_addI, q_sub, q_lt, q_gt, q_ge, q_le, q_eqI, q_neI, q_abs, q_max, q_min, q_intI, q_intB, q_lenL, q_lenT, q_ixL, q_ixT, q_gN, q_gsNil, w_gsCons, w_gSub2, q_frzD, List.getElem?_cons_zero, List.getElem?_cons_succ, List.set_cons_zero, List.set_cons_succ, List.length_cons, List.length_nil, if_true, Option.map_some, decide_eq_true_eq, decide_eq_false_iff_not, decide_true, decide_false, Bool.false_eq_true, if_false, forall_const, true_implies, false_implies, and_true, true_and, reduceIte, reduceCtorEq, List.length_map, w_mulI, w_modI, w_divI, w_divmod, w_pow, at_0, at_1, at_2, Option.some.injEq, exists_eq_left', exists_eq_left, false_and, or_false, PyData.int.injEq, wp_none, wpS_none, imp_false, Decidable.not_not, sizeLine_eq, Nat.reduceAdd, not_true_eq_false, not_false_eq_true, wp_ite, w_atD, look_d, List.any_cons, List.any_nil, isT, tyN, String.reduceBEq, Bool.or_false, Bool.false_or, Bool.true_or, Bool.or_true, Bool.and_false, Bool.false_and, Bool.true_and, Bool.and_true, beq_self_eq_true, isNo, q_is, q_isnot, q_eqB, q_neB, q_eqS, q_neS, w_lc, wipeR, gsN, zipD_len, enumD_len, rng_len, Option.isSome_some, Int.zero_add, viewL, viewS, w_forN, w_forC, kFor_nx, kFor_ct, kFor_bk, kFor_rt, x_lcD, x_jSq, kSq, x_jZp, jZ0_T, jZ0_L, kR1_eq, kR2_eq, kEn_eq, kZp_eq, kZp_T, x_iR1, x_iR2, x_iEn, x_iZp, x_iSq, it_L, it_T, x_slL, q_slS, q_listD, q_listN, q_listNT, q_listDT, q_tupL, q_tupT, PyData.list.injEq, PyData.tuple.injEq, w_frzM, exists_eq, exists_eq', q_gTu2, q_gTu3, Int.reducePow, q_intB, q_mkT0, q_mkT1, q_mkT2, q_mkT3, q_alD0, q_alD1, q_alD2, q_alD3, q_alD4, alloc_N, Int.reduceLT, Int.reduceLE, Nat.reduceLT, Nat.reduceLeDiff, Int.reduceToNat, or_true, true_or, Fl.rt.injEq, Val.d.injEq, Bool.not_true, Bool.not_false]
    refine ⟨.inr ⟨by omega, by omega⟩, h0, _, q_setC (get_new _ _) (n := j.toNat) ?_, _, _, ms.set j.toNat (ms[j.toNat]'(by omega) + x * ((((0 + i : Nat) : Int)) + 2)), rfl, ?_, ?_⟩
    · unfold ixN
      rw [if_pos p0, if_pos (by simpa using pj)]
    · rw [List.map_set, List.map_set]
      simp
    · rw [List.length_set]
      exact hl
  · rintro ρ S1 ⟨u, v, ms, rfl, rfl, hl⟩
    simp only [w_seq, w_nil, w_ret, w_expr, w_asg, w_if, x_par, kPar_eq, Bool.false_xor, Bool.true_xor, w_for, w_c, w_bin, w_aNil, w_aCons, w_cb, w_call, w_tst, w_not, w_and, w_or, w_eif, w_frzE, x_eAnd, x_eOr, bif2_d, w_eNot, w_eNeg, x_chain, w_mt, w_isi, w_lst, w_tup, w_eSl, w_oSo, w_oNo, eVar, wp_some, wp_bnd, wp_map, wpS_some, bnd_some, kSeq_nx, kSeq_rt, kSeq_bk, kSeq_ct, q_addI, q_sub, q_lt, q_gt, q_ge, q_le, q_eqI, q_neI, q_abs, q_max, q_min, q_intI, q_intB, q_lenL, q_lenT, q_ixL, q_ixT, q_gN, q_gsNil, w_gsCons, w_gSub2, q_frzD, List.getElem?_cons_zero, List.getElem?_cons_succ, List.set_cons_zero, List.set_cons_succ, List.length_cons, List.length_nil, if_true, Option.map_some, decide_eq_true_eq, decide_eq_false_iff_not, decide_true, decide_false, Bool.false_eq_true, if_false, forall_const, true_implies, false_implies, and_true, true_and, reduceIte, reduceCtorEq, List.length_map, w_mulI, w_modI, w_divI, w_divmod, w_pow, at_0, at_1, at_2, Option.some.injEq, exists_eq_left', exists_eq_left, false_and, or_false, PyData.int.injEq, wp_none, wpS_none, imp_false, Decidable.not_not, sizeLine_eq, Nat.reduceAdd, not_true_eq_false, not_false_eq_true, wp_ite, w_atD, look_d, List.any_cons, List.any_nil, isT, tyN, String.reduceBEq, Bool.or_false, Bool.false_or, Bool.true_or, Bool.or_true, Bool.and_false, Bool.false_and, Bool.true_and, Bool.and_true, beq_self_eq_true, isNo, q_is, q_isnot, q_eqB, q_neB, q_eqS, q_neS, w_lc, wipeR, gsN, zipD_len, enumD_len, rng_len, Option.isSome_some, Int.zero_add, viewL, viewS, w_forN, w_forC, kFor_nx, kFor_ct, kFor_bk, kFor_rt, x_lcD, x_jSq, kSq, x_jZp, jZ0_T, jZ0_L, kR1_eq, kR2_eq, kEn_eq, kZp_eq, kZp_T, x_iR1, x_iR2, x_iEn, x_iZp, x_iSq, it_L, it_T, x_slL, q_slS, q_listD, q_listN, q_listNT, q_listDT, q_tupL, q_tupT, PyData.list.injEq, PyData.tuple.injEq, w_frzM, exists_eq, exists_eq', q_gTu2, q_gTu3, Int.reducePow, q_intB, q_mkT0, q_mkT1, q_mkT2, q_mkT3, q_alD0, q_alD1, q_alD2, q_alD3, q_alD4, alloc_N, Int.reduceLT, Int.reduceLE, Nat.reduceLT, Nat.reduceLeDiff, Int.reduceToNat, or_true, true_or, Fl.rt.injEq, Val.d.injEq, Bool.not_true, Bool.not_false, q_frzN (get_new _ _)]
    refine ⟨(Ex.new S _).setN (Nat.le_refl _) _, ms, rfl, ?_⟩
    rw [hl, List.length_take]
    omega

end QW

namespace QW
open PySem PySem.Spec PyProof.Rows L2 QL
def Pl (x : PyData) : Prop := ∃ a b : Int, x = .tuple [.int a, .int b] ∧ 0 ≤ a ∧ a ≤ 1000 ∧ 0 ≤ b ∧ b ≤ 1000
theorem Pl.tm {x : PyData} (h : Pl x) : Tm 1 142 x := by
  obtain ⟨a, b, rfl, a0, a1, b0, b1⟩ := h
  refine Tm.tup (n := 0) (w := 70) (fun d hd => ?_) (by decide) (Nat.le_refl _)
  simp only [List.mem_cons, List.not_mem_nil, or_false] at hd
  rcases hd with rfl | rfl
  · exact Tm.int (by omega) (by decide)
  · exact Tm.int (by omega) (by decide)
theorem place_ok {S : Sto} {k N w : Nat} {ds : List PyData} (hb : Bx N S k) (hN : N < 1000000000000) (ht : Tm 50 w (.list ds)) (hl : ds.length < 1000000) :
    wp (p_law_place [.c k, .d (.list ds)] S) fun r S' => ∃ x, r = .d x ∧ Dr k (N + 3) S S' ∧ Pl x := by
  unfold p_law_place
  refine w_fnD hb ?_
  show wpS (f_law_place [some (.c k), some (.d (.list ds)), none, none, none, none] S) _
  unfold f_law_place
  simp only [w_seq, w_nil, w_ret, w_expr, w_asg, w_if, x_par, kPar_eq, Bool.false_xor, Bool.true_xor, w_for, w_c, w_bin, w_aNil, w_aCons, w_cb, w_call, w_tst, w_not, w_and, w_or, w_eif, w_frzE, x_eAnd, x_eOr, bif2_d, w_eNot, w_eNeg, x_chain, w_mt, w_isi, w_lst, w_tup, w_eSl, w_oSo, w_oNo, eVar, wp_some, wp_bnd, wp_map, wpS_some, bnd_some, kSeq_nx, kSeq_rt, kSeq_bk, kSeq_ct, q_addI, q_sub, q_lt, q_gt, q_ge, q_le, q_eqI, q_neI, q_abs, q_max, q_min, q_intI, q_intB, q_lenL, q_lenT, q_ixL, q_ixT, q_gN, q_gsNil, w_gsCons, w_gSub2, q_frzD, List.getElem?_cons_zero, List.getElem?_cons_succ, List.set_cons_zero, List.set_cons_succ, List.length_cons, List.length_nil, if_true, Option.map_some, decide_eq_true_eq, decide_eq_false_iff_not, decide_true, decide_false, Bool.false_eq_true, if_false, forall_const, true_implies, false_implies, and_true, true_and, reduceIte, reduceCtorEq, List.length_map, w_mulI, w_modI, w_divI, w_divmod, w_pow, at_0, at_1, at_2, Option.some.injEq, exists_eq_left', exists_eq_left, false_and, or_false, PyData.int.injEq, wp_none, wpS_none, imp_false, Decidable.not_not, sizeLine_eq, Nat.reduceAdd, not_true_eq_false, not_false_eq_true, wp_ite, w_atD, look_d, List.any_cons, List.any_nil, isT, tyN, String.reduceBEq, Bool.or_false, Bool.false_or, Bool.true_or, Bool.or_true, Bool.and_false, Bool.false_and, Bool.true_and, Bool.and_true, beq_self_eq_true, isNo, q_is, q_isnot, q_eqB, q_neB, q_eqS, q_neS, w_lc, wipeR, gsN, zipD_len, enumD_len, rng_len, Option.isSome_some, Int.zero_add, viewL, viewS, w_forN, w_forC, kFor_nx, kFor_ct, kFor_bk, kFor_rt, x_lcD, x_jSq, kSq, x_jZp, jZ0_T, jZ0_L, kR1_eq, kR2_eq, kEn_eq, kZp_eq, kZp_T, x_iR1, x_iR2, x_iEn, x_iZp, x_iSq, it_L, it_T, x_slL, q_slS, q_listD, q_listN, q_listNT, q_listDT, q_tupL, q_tupT, PyData.list.injEq, PyData.tuple.injEq, w_frzM, exists_eq, exists_eq', q_gTu2, q_gTu3, Int.reducePow, q_intB, q_mkT0, q_mkT1, q_mkT2, q_mkT3, q_alD0, q_alD1, q_alD2, q_alD3, q_alD4, alloc_N, Int.reduceLT, Int.reduceLE, Nat.reduceLT, Nat.reduceLeDiff, Int.reduceToNat, or_true, true_or, Fl.rt.injEq, Val.d.injEq, Bool.not_true, Bool.not_false]
  refine take_i hb (by omega) (by decide) (by decide) fun i S1 i0 i1 g1 => ?_
  simp only [w_seq, w_nil, w_ret, w_expr, w_asg, w_if, x_par, kPar_eq, Bool.false_xor, Bool.true_xor, w_for, w_c, w_bin, w_aNil, w_aCons, w_cb, w_call, w_tst, w_not, w_and, w_or, w_eif, w_frzE, x_eAnd, x_eOr, bif2_d, w_eNot, w_eNeg, x_chain, w_mt, w_isi, w_lst, w_tup, w_eSl, w_oSo, w_oNo, eVar, wp_some, wp_bnd, wp_map, wpS_some, bnd_some, kSeq_nx, kSeq_rt, kSeq_bk, kSeq_ct, q_addI, q_sub, q_lt, q_gt, q_ge, q_le, q_eqI, q_neI, q_abs, q_max, q_min, q_intI, q_intB, q_lenL, q_lenT, q_ixL, q_ixT, q_gN, q_gsNil, w_gsCons, w_gSub2, q_frzD, List.getElem?_cons_zero, List.getElem?_cons_succ, List.set_cons_zero, List.set_cons_succ, List.length_cons, List.length_nil, if_true, Option.map_some, decide_eq_true_eq, decide_eq_false_iff_not, decide_true, decide_false, Bool.false_eq_true, if_false, forall_const, true_implies, false_implies, and_true, true_and, reduceIte, reduceCtorEq, List.length_map, w_mulI, w_modI, w_divI, w_divmod, w_pow, at_0, at_1, at_2, Option.some.injEq, exists_eq_left', exists_eq_left, false_and, or_false, PyData.int.injEq, wp_none, wpS_none, imp_false, Decidable.not_not, sizeLine_eq, Nat.reduceAdd, not_true_eq_false, not_false_eq_true, wp_ite, w_atD, look_d, List.any_cons, List.any_nil, isT, tyN, String.reduceBEq, Bool.or_false, Bool.false_or, Bool.true_or, Bool.or_true, Bool.and_false, Bool.false_and, Bool.true_and, Bool.and_true, beq_self_eq_true, isNo, q_is, q_isnot, q_eqB, q_neB, q_eqS, q_neS, w_lc, wipeR, gsN, zipD_len, enumD_len, rng_len, Option.isSome_some, Int.zero_add, viewL, viewS, w_forN, w_forC, kFor_nx, kFor_ct, kFor_bk, kFor_rt, x_lcD, x_jSq, kSq, x_jZp, jZ0_T, jZ0_L, kR1_eq, kR2_eq, kEn_eq, kZp_eq, kZp_T, x_iR1, x_iR2, x_iEn, x_iZp, x_iSq, it_L, it_T, x_slL, q_slS, q_listD, q_listN, q_listNT, q_listDT, q_tupL, q_tupT, PyData.list.injEq, PyData.tuple.injEq, w_frzM, exists_eq, exists_eq', q_gTu2, q_gTu3, Int.reducePow, q_intB, q_mkT0, q_mkT1, q_mkT2, q_mkT3, q_alD0, q_alD1, q_alD2, q_alD3, q_alD4, alloc_N, Int.reduceLT, Int.reduceLE, Nat.reduceLT, Nat.reduceLeDiff, Int.reduceToNat, or_true, true_or, Fl.rt.injEq, Val.d.injEq, Bool.not_true, Bool.not_false]
  constructor <;> intro _
  all_goals
    refine take_i g1.box (by omega) (by decide) (by decide) fun x S2 x0 x1 g2 => ?_
    refine take_i g2.box (by omega) (by decide) (by decide) fun y S3 y0 y1 g3 => ?_
    refine ⟨by omega, ?_⟩
    obtain ⟨I, hI⟩ : ∃ I : Nat → Rho → Sto → Prop, I = fun _ ρ S' => ∃ x u t, ρ = [some (.c k), some (.d (.list ds)), t, some (.d (.int x)), some (.d (.int y)), u] ∧ S' = S3 ∧ 0 ≤ x ∧ x ≤ 1000 := ⟨_, rfl⟩
    refine w_loop I (by rw [hI]; exact ⟨x, _, _, rfl, rfl, x0, by omega⟩) ?_ ?_
    · intro i d ρ S' hd h
      rw [hI] at h
      obtain ⟨x, u, t, rfl, rfl, x0, x1⟩ := h
      have hp : Pl (.tuple [.int x, .int y]) := ⟨x, y, rfl, x0, x1, y0, by omega⟩
      simp only [w_seq, w_nil, w_ret, w_expr, w_asg, w_if, x_par, kPar_eq, Bool.false_xor, Bool.true_xor, w_for, w_c, w_bin, w_aNil, w_aCons, w_cb, w_call, w_tst, w_not, w_and, w_or, w_eif, w_frzE, x_eAnd, x_eOr, bif2_d, w_eNot, w_eNeg, x_chain, w_mt, w_isi, w_lst, w_tup, w_eSl, w_oSo, w_oNo, eVar, wp_some, wp_bnd, wp_map, wpS_some, bnd_some, kSeq_nx, kSeq_rt, kSeq_bk, kSeq_ct, q_addI, q_sub, q_lt, q_gt, q_ge, q_le, q_eqI, q_neI, q_abs, q_max, q_min, q_intI, q_intB, q_lenL, q_lenT, q_ixL, q_ixT, q_gN, q_gsNil, w_gsCons, w_gSub2, q_frzD, List.getElem?_cons_zero, List.getElem?_cons_succ, List.set_cons_zero, List.set_cons_succ, List.length_cons, List.length_nil, if_true, Option.map_some, decide_eq_true_eq, decide_eq_false_iff_not, decide_true, decide_false, Bool.false_eq_true, if_false, forall_const, true_implies, false_implies, and_true, true_and, reduceIte, reduceCtorEq, List.length_map, w_mulI, w_modI, w_divI, w_divmod, w_pow, at_0, at_1, at_2, Option.some.injEq, exists_eq_left', exists_eq_left, false_and, or_false, PyData.int.injEq, wp_none, wpS_none, imp_false, Decidable.not_not, sizeLine_eq, Nat.reduceAdd, not_true_eq_false, not_false_eq_true, wp_ite, w_atD, look_d, List.any_cons, List.any_nil, isT, tyN, String.reduceBEq, Bool.or_false, Bool.false_or, Bool.true_or, Bool.or_true, Bool.and_false, Bool.false_and, Bool.true_and, Bool.and_true, beq_self_eq_true, isNo, q_is, q_isnot, q_eqB, q_neB, q_eqS, q_neS, w_lc, wipeR, gsN, zipD_len, enumD_len, rng_len, Option.isSome_some, Int.zero_add, viewL, viewS, w_forN, w_forC, kFor_nx, kFor_ct, kFor_bk, kFor_rt, x_lcD, x_jSq, kSq, x_jZp, jZ0_T, jZ0_L, kR1_eq, kR2_eq, kEn_eq, kZp_eq, kZp_T, x_iR1, x_iR2, x_iEn, x_iZp, x_iSq, it_L, it_T, x_slL, q_slS, q_listD, q_listN, q_listNT, q_listDT, q_tupL, q_tupT, PyData.list.injEq, PyData.tuple.injEq, w_frzM, exists_eq, exists_eq', q_gTu2, q_gTu3, Int.reducePow, q_intB, q_mkT0, q_mkT1, q_mkT2, q_mkT3, q_alD0, q_alD1, q_alD2, q_alD3, q_alD4, alloc_N, Int.reduceLT, Int.reduceLE, Nat.reduceLT, Nat.reduceLeDiff, Int.reduceToNat, or_true, true_or, Fl.rt.injEq, Val.d.injEq, Bool.not_true, Bool.not_false, x_inL (hp.tm.mono (by decide) (Nat.le_refl _)) ht]
      rw [hI]
      refine ⟨fun _ => ⟨_, _, _, rfl, rfl, Int.emod_nonneg _ (by decide), by omega⟩, fun _ => ⟨_, _, _, rfl, rfl, x0, x1⟩⟩
    · intro ρ S' h
      rw [hI] at h
      obtain ⟨x, u, t, rfl, rfl, x0, x1⟩ := h
      simp only [w_seq, w_nil, w_ret, w_expr, w_asg, w_if, x_par, kPar_eq, Bool.false_xor, Bool.true_xor, w_for, w_c, w_bin, w_aNil, w_aCons, w_cb, w_call, w_tst, w_not, w_and, w_or, w_eif, w_frzE, x_eAnd, x_eOr, bif2_d, w_eNot, w_eNeg, x_chain, w_mt, w_isi, w_lst, w_tup, w_eSl, w_oSo, w_oNo, eVar, wp_some, wp_bnd, wp_map, wpS_some, bnd_some, kSeq_nx, kSeq_rt, kSeq_bk, kSeq_ct, q_addI, q_sub, q_lt, q_gt, q_ge, q_le, q_eqI, q_neI, q_abs, q_max, q_min, q_intI, q_intB, q_lenL, q_lenT, q_ixL, q_ixT, q_gN, q_gsNil, w_gsCons, w_gSub2, q_frzD, List.getElem?_cons_zero, List.getElem?_cons_succ, List.set_cons_zero, List.set_cons_succ, List.length_cons, List.length_nil, if_true, Option.map_some, decide_eq_true_eq, decide_eq_false_iff_not, decide_true, decide_false, Bool.false_eq_true, if_false, forall_const, true_implies, false_implies, and_true, true_and, reduceIte, reduceCtorEq, List.length_map, w_mulI, w_modI, w_divI, w_divmod, w_pow, at_0, at_1, at_2, Option.some.injEq, exists_eq_left', exists_eq_left, false_and, or_false, PyData.int.injEq, wp_none, wpS_none, imp_false, Decidable.not_not, sizeLine_eq, Nat.reduceAdd, not_true_eq_false, not_false_eq_true, wp_ite, w_atD, look_d, List.any_cons, List.any_nil, isT, tyN, String.reduceBEq, Bool.or_false, Bool.false_or, Bool.true_or, Bool.or_true, Bool.and_false, Bool.false_and, Bool.true_and, Bool.and_true, beq_self_eq_true, isNo, q_is, q_isnot, q_eqB, q_neB, q_eqS, q_neS, w_lc, wipeR, gsN, zipD_len, enumD_len, rng_len, Option.isSome_some, Int.zero_add, viewL, viewS, w_forN, w_forC, kFor_nx, kFor_ct, kFor_bk, kFor_rt, x_lcD, x_jSq, kSq, x_jZp, jZ0_T, jZ0_L, kR1_eq, kR2_eq, kEn_eq, kZp_eq, kZp_T, x_iR1, x_iR2, x_iEn, x_iZp, x_iSq, it_L, it_T, x_slL, q_slS, q_listD, q_listN, q_listNT, q_listDT, q_tupL, q_tupT, PyData.list.injEq, PyData.tuple.injEq, w_frzM, exists_eq, exists_eq', q_gTu2, q_gTu3, Int.reducePow, q_intB, q_mkT0, q_mkT1, q_mkT2, q_mkT3, q_alD0, q_alD1, q_alD2, q_alD3, q_alD4, alloc_N, Int.reduceLT, Int.reduceLE, Nat.reduceLT, Nat.reduceLeDiff, Int.reduceToNat, or_true, true_or, Fl.rt.injEq, Val.d.injEq, Bool.not_true, Bool.not_false]
      exact ⟨((g1.trans g2).trans g3).gr, x, y, rfl, x0, x1, y0, by omega⟩
theorem place_i {S : Sto} {k N w : Nat} {ds : List PyData} {Q : Val → Sto → Prop} (hb : Bx N S k) (hN : N < 1000000000000) (ht : Tm 50 w (.list ds)) (hl : ds.length < 1000000) (q : ∀ x S', Pl x → Dr k (N + 3) S S' → Q (.d x) S') :
    wp (p_law_place [.c k, .d (.list ds)] S) Q := by
  refine wp_mono (place_ok hb hN ht hl) fun r S' z => ?_
  obtain ⟨x, rfl, g, p⟩ := z
  exact q x S' p g

end QW

namespace QW
open PySem PySem.Spec PyProof.Rows L2 QL
def vx (p : Int × Int) : PyData := .tuple [.int p.1, .int p.2]
def ab (i : Int) : Int := if i < 0 then -i else i
def mx (i j : Int) : Int := if j > i then j else i
def way (p q : Int × Int) : Int := mx (ab (p.1 - q.1)) (ab (p.2 - q.2))
theorem way_eq {p q : Int × Int} {S : Sto} : p_way_between [.d (vx p), .d (vx q)] S = some (.d (.int (way p q)), S) := by
  unfold p_way_between
  refine w_fnE ?_
  show wpS (f_way_between [some (.d (vx p)), some (.d (vx q))] S) _
  unfold f_way_between vx
  simp only [w_seq, w_nil, w_ret, w_expr, w_asg, w_if, x_par, kPar_eq, Bool.false_xor, Bool.true_xor, w_for, w_c, w_bin, w_aNil, w_aCons, w_cb, w_call, w_tst, w_not, w_and, w_or, w_eif, w_frzE, x_eAnd, x_eOr, bif2_d, w_eNot, w_eNeg, x_chain, w_mt, w_isi, w_lst, w_tup, w_eSl, w_oSo, w_oNo, eVar, wp_some, wp_bnd, wp_map, wpS_some, bnd_some, kSeq_nx, kSeq_rt, kSeq_bk, kSeq_ct, q_addI, q_sub, q_lt, q_gt, q_ge, q_le, q_eqI, q_neI, q_abs, q_max, q_min, q_intI, q_intB, q_lenL, q_lenT, q_ixL, q_ixT, q_gN, q_gsNil, w_gsCons, w_gSub2, q_frzD, List.getElem?_cons_zero, List.getElem?_cons_succ, List.set_cons_zero, List.set_cons_succ, List.length_cons, List.length_nil, if_true, Option.map_some, decide_eq_true_eq, decide_eq_false_iff_not, decide_true, decide_false, Bool.false_eq_true, if_false, forall_const, true_implies, false_implies, and_true, true_and, reduceIte, reduceCtorEq, List.length_map, w_mulI, w_modI, w_divI, w_divmod, w_pow, at_0, at_1, at_2, Option.some.injEq, exists_eq_left', exists_eq_left, false_and, or_false, PyData.int.injEq, wp_none, wpS_none, imp_false, Decidable.not_not, sizeLine_eq, Nat.reduceAdd, not_true_eq_false, not_false_eq_true, wp_ite, w_atD, look_d, List.any_cons, List.any_nil, isT, tyN, String.reduceBEq, Bool.or_false, Bool.false_or, Bool.true_or, Bool.or_true, Bool.and_false, Bool.false_and, Bool.true_and, Bool.and_true, beq_self_eq_true, isNo, q_is, q_isnot, q_eqB, q_neB, q_eqS, q_neS, w_lc, wipeR, gsN, zipD_len, enumD_len, rng_len, Option.isSome_some, Int.zero_add, viewL, viewS, w_forN, w_forC, kFor_nx, kFor_ct, kFor_bk, kFor_rt, x_lcD, x_jSq, kSq, x_jZp, jZ0_T, jZ0_L, kR1_eq, kR2_eq, kEn_eq, kZp_eq, kZp_T, x_iR1, x_iR2, x_iEn, x_iZp, x_iSq, it_L, it_T, x_slL, q_slS, q_listD, q_listN, q_listNT, q_listDT, q_tupL, q_tupT, PyData.list.injEq, PyData.tuple.injEq, w_frzM, exists_eq, exists_eq', q_gTu2, q_gTu3, Int.reducePow, q_intB, q_mkT0, q_mkT1, q_mkT2, q_mkT3, q_alD0, q_alD1, q_alD2, q_alD3, q_alD4, alloc_N, Int.reduceLT, Int.reduceLE, Nat.reduceLT, Nat.reduceLeDiff, Int.reduceToNat, or_true, true_or, Fl.rt.injEq, Val.d.injEq, Bool.not_true, Bool.not_false, List.map_cons, List.map_nil]
  exact ⟨rfl, Ex.refl S⟩
theorem way_sym (p q : Int × Int) : way p q = way q p := by
  unfold way mx ab
  split <;> split <;> split <;> split <;> split <;> split <;> omega
theorem way_tri (p q r : Int × Int) : way p q ≤ way p r + way r q := by
  have h : ∀ (x y : Int), x ≤ mx x y ∧ y ≤ mx x y := fun x y => by unfold mx; split <;> omega
  have a : ∀ x y z : Int, ab (x - y) ≤ ab (x - z) + ab (z - y) := fun x y z => by unfold ab; split <;> split <;> split <;> omega
  have k : ∀ x y z : Int, x ≤ z → y ≤ z → mx x y ≤ z := fun x y z _ _ => by unfold mx; split <;> omega
  unfold way
  have h1 := h (ab (p.1 - r.1)) (ab (p.2 - r.2))
  have h2 := h (ab (r.1 - q.1)) (ab (r.2 - q.2))
  have a1 := a p.1 q.1 r.1
  have a2 := a p.2 q.2 r.2
  exact k _ _ _ (by omega) (by omega)
theorem way_zero (p q : Int × Int) : way p q = 0 ↔ p = q := by
  rw [Prod.ext_iff]
  unfold way mx ab
  split <;> split <;> split <;> omega
theorem eq_vx {p q : Int × Int} {S : Sto} : gEq (.d (vx p)) (.d (vx q)) S = some (.d (.bool (decide (p = q))), S) := by
  rw [q_eq rfl rfl (by simp [vx, PyData.depth, PyData.depthAll])]
  unfold vx
  simp only [PyData.eqv, PyData.eqvAll, Bool.and_true]
  rw [show (p.1 == q.1 && p.2 == q.2) = decide (p = q) from by rw [Bool.eq_iff_iff, Bool.and_eq_true, beq_iff_eq, beq_iff_eq, decide_eq_true_eq, Prod.ext_iff]]
theorem pl_vx {ds : List PyData} (h : ∀ d ∈ ds, Pl d) : ∃ ps : List (Int × Int), ds = ps.map vx := by
  induction ds with
  | nil => exact ⟨[], rfl⟩
  | cons d r ih =>
    obtain ⟨ps, e⟩ := ih fun x hx => h x (List.mem_cons_of_mem _ hx)
    obtain ⟨a, b, e2, _⟩ := h d (List.mem_cons_self ..)
    exact ⟨(a, b) :: ps, by rw [e, e2]; rfl⟩
theorem ne_vx {p q : Int × Int} {S : Sto} : gNe (.d (vx p)) (.d (vx q)) S = some (.d (.bool (!decide (p = q))), S) := by
  rw [q_ne rfl rfl (by simp [vx, PyData.depth, PyData.depthAll])]
  unfold vx
  simp only [PyData.eqv, PyData.eqvAll, Bool.and_true]
  rw [show (p.1 == q.1 && p.2 == q.2) = decide (p = q) from by rw [Bool.eq_iff_iff, Bool.and_eq_true, beq_iff_eq, beq_iff_eq, decide_eq_true_eq, Prod.ext_iff]]
theorem Pl.vx {x : PyData} (h : Pl x) : ∃ p : Int × Int, x = QW.vx p := by
  obtain ⟨a, b, e, _⟩ := h
  exact ⟨(a, b), e⟩
theorem way_nn (p q : Int × Int) : 0 ≤ way p q := by
  unfold way mx ab
  split <;> split <;> split <;> omega
theorem ix_vx0 {p : Int × Int} {S : Sto} : gIx (.d (vx p)) (.d (.int 0)) S = some (.d (.int p.1), S) := by
  unfold vx
  rw [q_ixT, List.map_cons, at_0]
  rfl
theorem ix_vx1 {p : Int × Int} {S : Sto} : gIx (.d (vx p)) (.d (.int 1)) S = some (.d (.int p.2), S) := by
  unfold vx
  rw [q_ixT, List.map_cons, List.map_cons, at_1]
  rfl
theorem tup_vx {a b : Int} {S : Sto} : mkT [.d (.int a), .d (.int b)] S = some (.d (vx (a, b)), S) := rfl

end QW

namespace QW
open PySem PySem.Spec PyProof.Rows L2 QL
def sb (x y t : Int) : Int := if x ≤ y then (if x + t < y then x + t else y) else (if x - t > y then x - t else y)
def go (p q : Int × Int) (t : Int) : Int × Int := (sb p.1 q.1 t, sb p.2 q.2 t)
def sd (x y : Int) : Int := if x = y then x else if x < y then x + 1 else x - 1
theorem sb_eq {x y t : Int} {S : Sto} : p_side_behind [.d (.int x), .d (.int y), .d (.int t)] S = some (.d (.int (sb x y t)), S) := by
  unfold p_side_behind
  refine w_fnE ?_
  show wpS (f_side_behind [some (.d (.int x)), some (.d (.int y)), some (.d (.int t))] S) _
  unfold f_side_behind
  simp only [w_seq, w_nil, w_ret, w_expr, w_asg, w_if, x_par, kPar_eq, Bool.false_xor, Bool.true_xor, w_for, w_c, w_bin, w_aNil, w_aCons, w_cb, w_call, w_tst, w_not, w_and, w_or, w_eif, w_frzE, x_eAnd, x_eOr, bif2_d, w_eNot, w_eNeg, x_chain, w_mt, w_isi, w_lst, w_tup, w_eSl, w_oSo, w_oNo, eVar, wp_some, wp_bnd, wp_map, wpS_some, bnd_some, kSeq_nx, kSeq_rt, kSeq_bk, kSeq_ct, q_addI, q_sub, q_lt, q_gt, q_ge, q_le, q_eqI, q_neI, q_abs, q_max, q_min, q_intI, q_intB, q_lenL, q_lenT, q_ixL, q_ixT, q_gN, q_gsNil, w_gsCons, w_gSub2, q_frzD, List.getElem?_cons_zero, List.getElem?_cons_succ, List.set_cons_zero, List.set_cons_succ, List.length_cons, List.length_nil, if_true, Option.map_some, decide_eq_true_eq, decide_eq_false_iff_not, decide_true, decide_false, Bool.false_eq_true, if_false, forall_const, true_implies, false_implies, and_true, true_and, reduceIte, reduceCtorEq, List.length_map, w_mulI, w_modI, w_divI, w_divmod, w_pow, at_0, at_1, at_2, Option.some.injEq, exists_eq_left', exists_eq_left, false_and, or_false, PyData.int.injEq, wp_none, wpS_none, imp_false, Decidable.not_not, sizeLine_eq, Nat.reduceAdd, not_true_eq_false, not_false_eq_true, wp_ite, w_atD, look_d, List.any_cons, List.any_nil, isT, tyN, String.reduceBEq, Bool.or_false, Bool.false_or, Bool.true_or, Bool.or_true, Bool.and_false, Bool.false_and, Bool.true_and, Bool.and_true, beq_self_eq_true, isNo, q_is, q_isnot, q_eqB, q_neB, q_eqS, q_neS, w_lc, wipeR, gsN, zipD_len, enumD_len, rng_len, Option.isSome_some, Int.zero_add, viewL, viewS, w_forN, w_forC, kFor_nx, kFor_ct, kFor_bk, kFor_rt, x_lcD, x_jSq, kSq, x_jZp, jZ0_T, jZ0_L, kR1_eq, kR2_eq, kEn_eq, kZp_eq, kZp_T, x_iR1, x_iR2, x_iEn, x_iZp, x_iSq, it_L, it_T, x_slL, q_slS, q_listD, q_listN, q_listNT, q_listDT, q_tupL, q_tupT, PyData.list.injEq, PyData.tuple.injEq, w_frzM, exists_eq, exists_eq', q_gTu2, q_gTu3, Int.reducePow, q_intB, q_mkT0, q_mkT1, q_mkT2, q_mkT3, q_alD0, q_alD1, q_alD2, q_alD3, q_alD4, alloc_N, Int.reduceLT, Int.reduceLE, Nat.reduceLT, Nat.reduceLeDiff, Int.reduceToNat, or_true, true_or, Fl.rt.injEq, Val.d.injEq, Bool.not_true, Bool.not_false]
  unfold sb
  refine ⟨fun h => ⟨by rw [if_pos h], Ex.refl S⟩, fun h => ⟨by rw [if_neg h], Ex.refl S⟩⟩
theorem go_eq {p q : Int × Int} {t : Int} {S : Sto} : p_going_to [.d (vx p), .d (vx q), .d (.int t)] S = some (.d (vx (go p q t)), S) := by
  unfold p_going_to
  refine w_fnE ?_
  show wpS (f_going_to [some (.d (vx p)), some (.d (vx q)), some (.d (.int t))] S) _
  unfold f_going_to vx
  simp only [w_seq, w_nil, w_ret, w_expr, w_asg, w_if, x_par, kPar_eq, Bool.false_xor, Bool.true_xor, w_for, w_c, w_bin, w_aNil, w_aCons, w_cb, w_call, w_tst, w_not, w_and, w_or, w_eif, w_frzE, x_eAnd, x_eOr, bif2_d, w_eNot, w_eNeg, x_chain, w_mt, w_isi, w_lst, w_tup, w_eSl, w_oSo, w_oNo, eVar, wp_some, wp_bnd, wp_map, wpS_some, bnd_some, kSeq_nx, kSeq_rt, kSeq_bk, kSeq_ct, q_addI, q_sub, q_lt, q_gt, q_ge, q_le, q_eqI, q_neI, q_abs, q_max, q_min, q_intI, q_intB, q_lenL, q_lenT, q_ixL, q_ixT, q_gN, q_gsNil, w_gsCons, w_gSub2, q_frzD, List.getElem?_cons_zero, List.getElem?_cons_succ, List.set_cons_zero, List.set_cons_succ, List.length_cons, List.length_nil, if_true, Option.map_some, decide_eq_true_eq, decide_eq_false_iff_not, decide_true, decide_false, Bool.false_eq_true, if_false, forall_const, true_implies, false_implies, and_true, true_and, reduceIte, reduceCtorEq, List.length_map, w_mulI, w_modI, w_divI, w_divmod, w_pow, at_0, at_1, at_2, Option.some.injEq, exists_eq_left', exists_eq_left, false_and, or_false, PyData.int.injEq, wp_none, wpS_none, imp_false, Decidable.not_not, sizeLine_eq, Nat.reduceAdd, not_true_eq_false, not_false_eq_true, wp_ite, w_atD, look_d, List.any_cons, List.any_nil, isT, tyN, String.reduceBEq, Bool.or_false, Bool.false_or, Bool.true_or, Bool.or_true, Bool.and_false, Bool.false_and, Bool.true_and, Bool.and_true, beq_self_eq_true, isNo, q_is, q_isnot, q_eqB, q_neB, q_eqS, q_neS, w_lc, wipeR, gsN, zipD_len, enumD_len, rng_len, Option.isSome_some, Int.zero_add, viewL, viewS, w_forN, w_forC, kFor_nx, kFor_ct, kFor_bk, kFor_rt, x_lcD, x_jSq, kSq, x_jZp, jZ0_T, jZ0_L, kR1_eq, kR2_eq, kEn_eq, kZp_eq, kZp_T, x_iR1, x_iR2, x_iEn, x_iZp, x_iSq, it_L, it_T, x_slL, q_slS, q_listD, q_listN, q_listNT, q_listDT, q_tupL, q_tupT, PyData.list.injEq, PyData.tuple.injEq, w_frzM, exists_eq, exists_eq', q_gTu2, q_gTu3, Int.reducePow, q_intB, q_mkT0, q_mkT1, q_mkT2, q_mkT3, q_alD0, q_alD1, q_alD2, q_alD3, q_alD4, alloc_N, Int.reduceLT, Int.reduceLE, Nat.reduceLT, Nat.reduceLeDiff, Int.reduceToNat, or_true, true_or, Fl.rt.injEq, Val.d.injEq, Bool.not_true, Bool.not_false, List.map_cons, List.map_nil, sb_eq]
  exact ⟨rfl, Ex.refl S⟩
theorem sd_sb {x y t : Int} (h : 0 ≤ t) : sd (sb x y t) y = sb x y (t + 1) := by
  unfold sd sb
  repeat' split
  all_goals omega
theorem sb_y {x y t : Int} (h : 0 ≤ t) : sb x y t = y ↔ ab (x - y) ≤ t := by
  unfold sb ab
  repeat' split
  all_goals omega
theorem go_q {p q : Int × Int} {t : Int} (h : 0 ≤ t) : go p q t = q ↔ way p q ≤ t := by
  rw [Prod.ext_iff]
  show sb _ _ _ = _ ∧ sb _ _ _ = _ ↔ _
  rw [sb_y h, sb_y h]
  unfold way mx
  split <;> omega
theorem go_0 {p q : Int × Int} : go p q 0 = p := by
  have : ∀ x y : Int, sb x y 0 = x := fun x y => by unfold sb; repeat' split; all_goals omega
  unfold go
  rw [this, this]
theorem go_way {p q : Int × Int} {t : Int} (h : 0 ≤ t) (h2 : t ≤ way p q) : way (go p q t) q = way p q - t ∧ way p (go p q t) ≤ t := by
  have a : ∀ x y : Int, ab (sb x y t - y) = (if ab (x - y) ≤ t then 0 else ab (x - y) - t) ∧ ab (x - sb x y t) ≤ t ∧ 0 ≤ ab (x - y) := fun x y => by
    unfold sb ab
    refine ⟨?_, ?_, ?_⟩
    all_goals (repeat' split)
    all_goals omega
  obtain ⟨a1, a2, a3⟩ := a p.1 q.1
  obtain ⟨b1, b2, b3⟩ := a p.2 q.2
  unfold way go mx at *
  simp only [] at *
  rw [a1, b1]
  refine ⟨?_, ?_⟩
  all_goals (repeat' split)
  all_goals (repeat' split at h2)
  all_goals omega

end QW

namespace QW
open PySem PySem.Spec PyProof.Rows L2 QL
def ic (ns : List Int) : Cell := .lst ((ns.map PyData.int).map Val.d)
theorem same_int {n : Nat} {i : Int} {S : Sto} : recφ 4 0 f_law_same (n + 1) [.d (.int i), .d (.int i)] S = some (.d (.bool true), S) := by
  unfold recφ
  refine w_fnE ?_
  show wpS (f_law_same _ [some (.d (.int i)), some (.d (.int i)), none, none] S) _
  unfold f_law_same
  simp only [w_seq, w_nil, w_ret, w_expr, w_asg, w_if, x_par, kPar_eq, Bool.false_xor, Bool.true_xor, w_for, w_c, w_bin, w_aNil, w_aCons, w_cb, w_call, w_tst, w_not, w_and, w_or, w_eif, w_frzE, x_eAnd, x_eOr, bif2_d, w_eNot, w_eNeg, x_chain, w_mt, w_isi, w_lst, w_tup, w_eSl, w_oSo, w_oNo, eVar, wp_some, wp_bnd, wp_map, wpS_some, bnd_some, kSeq_nx, kSeq_rt, kSeq_bk, kSeq_ct, q_addI, q_sub, q_lt, q_gt, q_ge, q_le, q_eqI, q_neI, q_abs, q_max, q_min, q_intI, q_intB, q_lenL, q_lenT, q_ixL, q_ixT, q_gN, q_gsNil, w_gsCons, w_gSub2, q_frzD, List.getElem?_cons_zero, List.getElem?_cons_succ, List.set_cons_zero, List.set_cons_succ, List.length_cons, List.length_nil, if_true, Option.map_some, decide_eq_true_eq, decide_eq_false_iff_not, decide_true, decide_false, Bool.false_eq_true, if_false, forall_const, true_implies, false_implies, and_true, true_and, reduceIte, reduceCtorEq, List.length_map, w_mulI, w_modI, w_divI, w_divmod, w_pow, at_0, at_1, at_2, Option.some.injEq, exists_eq_left', exists_eq_left, false_and, or_false, PyData.int.injEq, wp_none, wpS_none, imp_false, Decidable.not_not, sizeLine_eq, Nat.reduceAdd, not_true_eq_false, not_false_eq_true, wp_ite, w_atD, look_d, List.any_cons, List.any_nil, isT, tyN, String.reduceBEq, Bool.or_false, Bool.false_or, Bool.true_or, Bool.or_true, Bool.and_false, Bool.false_and, Bool.true_and, Bool.and_true, beq_self_eq_true, isNo, q_is, q_isnot, q_eqB, q_neB, q_eqS, q_neS, w_lc, wipeR, gsN, zipD_len, enumD_len, rng_len, Option.isSome_some, Int.zero_add, viewL, viewS, w_forN, w_forC, kFor_nx, kFor_ct, kFor_bk, kFor_rt, x_lcD, x_jSq, kSq, x_jZp, jZ0_T, jZ0_L, kR1_eq, kR2_eq, kEn_eq, kZp_eq, kZp_T, x_iR1, x_iR2, x_iEn, x_iZp, x_iSq, it_L, it_T, x_slL, q_slS, q_listD, q_listN, q_listNT, q_listDT, q_tupL, q_tupT, PyData.list.injEq, PyData.tuple.injEq, w_frzM, exists_eq, exists_eq', q_gTu2, q_gTu3, Int.reducePow, q_intB, q_mkT0, q_mkT1, q_mkT2, q_mkT3, q_alD0, q_alD1, q_alD2, q_alD3, q_alD4, alloc_N, Int.reduceLT, Int.reduceLE, Nat.reduceLT, Nat.reduceLeDiff, Int.reduceToNat, or_true, true_or, Fl.rt.injEq, Val.d.injEq, Bool.not_true, Bool.not_false]
  exact Ex.refl S
theorem same_cell {k : Nat} {ns : List Int} {S : Sto} (h : S[k]? = some (ic ns)) (hl : ns.length < 1000000) : p_law_same [.c k, .d (.list (ns.map .int))] S = some (.d (.bool true), S) := by
  unfold p_law_same recφ
  refine w_fnE ?_
  show wpS (f_law_same (recφ 4 0 f_law_same 11) [some (.c k), some (.d (.list (ns.map .int))), none, none] S) _
  have hm : ∀ i : Int, recφ 4 0 f_law_same 11 [.d (.int i), .d (.int i)] S = some (.d (.bool true), S) := fun i => same_int (n := 10)
  generalize recφ 4 0 f_law_same 11 = me at hm ⊢
  unfold f_law_same
  have h' : S[k]? = some (.lst ((ns.map PyData.int).map Val.d)) := h
  simp only [w_seq, w_nil, w_ret, w_expr, w_asg, w_if, x_par, kPar_eq, Bool.false_xor, Bool.true_xor, w_for, w_c, w_bin, w_aNil, w_aCons, w_cb, w_call, w_tst, w_not, w_and, w_or, w_eif, w_frzE, x_eAnd, x_eOr, bif2_d, w_eNot, w_eNeg, x_chain, w_mt, w_isi, w_lst, w_tup, w_eSl, w_oSo, w_oNo, eVar, wp_some, wp_bnd, wp_map, wpS_some, bnd_some, kSeq_nx, kSeq_rt, kSeq_bk, kSeq_ct, q_addI, q_sub, q_lt, q_gt, q_ge, q_le, q_eqI, q_neI, q_abs, q_max, q_min, q_intI, q_intB, q_lenL, q_lenT, q_ixL, q_ixT, q_gN, q_gsNil, w_gsCons, w_gSub2, q_frzD, List.getElem?_cons_zero, List.getElem?_cons_succ, List.set_cons_zero, List.set_cons_succ, List.length_cons, List.length_nil, if_true, Option.map_some, decide_eq_true_eq, decide_eq_false_iff_not, decide_true, decide_false, Bool.false_eq_true, if_false, forall_const, true_implies, false_implies, and_true, true_and, reduceIte, reduceCtorEq, List.length_map, w_mulI, w_modI, w_divI, w_divmod, w_pow, at_0, at_1, at_2, Option.some.injEq, exists_eq_left', exists_eq_left, false_and, or_false, PyData.int.injEq, wp_none, wpS_none, imp_false, Decidable.not_not, sizeLine_eq, Nat.reduceAdd, not_true_eq_false, not_false_eq_true, wp_ite, w_atD, look_d, List.any_cons, List.any_nil, isT, tyN, String.reduceBEq, Bool.or_false, Bool.false_or, Bool.true_or, Bool.or_true, Bool.and_false, Bool.false_and, Bool.true_and, Bool.and_true, beq_self_eq_true, isNo, q_is, q_isnot, q_eqB, q_neB, q_eqS, q_neS, w_lc, wipeR, gsN, zipD_len, enumD_len, rng_len, Option.isSome_some, Int.zero_add, viewL, viewS, w_forN, w_forC, kFor_nx, kFor_ct, kFor_bk, kFor_rt, x_lcD, x_jSq, kSq, x_jZp, jZ0_T, jZ0_L, kR1_eq, kR2_eq, kEn_eq, kZp_eq, kZp_T, x_iR1, x_iR2, x_iEn, x_iZp, x_iSq, it_L, it_T, x_slL, q_slS, q_listD, q_listN, q_listNT, q_listDT, q_tupL, q_tupT, PyData.list.injEq, PyData.tuple.injEq, w_frzM, exists_eq, exists_eq', q_gTu2, q_gTu3, Int.reducePow, q_intB, q_mkT0, q_mkT1, q_mkT2, q_mkT3, q_alD0, q_alD1, q_alD2, q_alD3, q_alD4, alloc_N, Int.reduceLT, Int.reduceLE, Nat.reduceLT, Nat.reduceLeDiff, Int.reduceToNat, or_true, true_or, Fl.rt.injEq, Val.d.injEq, Bool.not_true, Bool.not_false, look_c h', q_lenC h', jZ0_c h']
  refine w_lcDP (items := (zipD (ns.map .int) (ns.map .int)).map Val.d) (fun _ => .d (.bool true)) (dZp_c h') (by rw [List.length_map, zipD_len, List.length_map]; omega) (fun x hx => ?_) ?_
  · obtain ⟨d, hd, rfl⟩ := List.mem_map.mp hx
    obtain ⟨i, hi⟩ := List.mem_iff_getElem?.mp hd
    obtain ⟨x, y, h1, h2, rfl⟩ := zp_get hi
    have e : x = y := by rw [h1] at h2; cases h2; rfl
    subst e
    obtain ⟨z, _, rfl⟩ := map_get h1
    simp only [w_seq, w_nil, w_ret, w_expr, w_asg, w_if, x_par, kPar_eq, Bool.false_xor, Bool.true_xor, w_for, w_c, w_bin, w_aNil, w_aCons, w_cb, w_call, w_tst, w_not, w_and, w_or, w_eif, w_frzE, x_eAnd, x_eOr, bif2_d, w_eNot, w_eNeg, x_chain, w_mt, w_isi, w_lst, w_tup, w_eSl, w_oSo, w_oNo, eVar, wp_some, wp_bnd, wp_map, wpS_some, bnd_some, kSeq_nx, kSeq_rt, kSeq_bk, kSeq_ct, q_addI, q_sub, q_lt, q_gt, q_ge, q_le, q_eqI, q_neI, q_abs, q_max, q_min, q_intI, q_intB, q_lenL, q_lenT, q_ixL, q_ixT, q_gN, q_gsNil, w_gsCons, w_gSub2, q_frzD, List.getElem?_cons_zero, List.getElem?_cons_succ, List.set_cons_zero, List.set_cons_succ, List.length_cons, List.length_nil, if_true, Option.map_some, decide_eq_true_eq, decide_eq_false_iff_not, decide_true, decide_false, Bool.false_eq_true, if_false, forall_const, true_implies, false_implies, and_true, true_and, reduceIte, reduceCtorEq, List.length_map, w_mulI, w_modI, w_divI, w_divmod, w_pow, at_0, at_1, at_2, Option.some.injEq, exists_eq_left', exists_eq_left, false_and, or_false, PyData.int.injEq, wp_none, wpS_none, imp_false, Decidable.not_not, sizeLine_eq, Nat.reduceAdd, not_true_eq_false, not_false_eq_true, wp_ite, w_atD, look_d, List.any_cons, List.any_nil, isT, tyN, String.reduceBEq, Bool.or_false, Bool.false_or, Bool.true_or, Bool.or_true, Bool.and_false, Bool.false_and, Bool.true_and, Bool.and_true, beq_self_eq_true, isNo, q_is, q_isnot, q_eqB, q_neB, q_eqS, q_neS, w_lc, wipeR, gsN, zipD_len, enumD_len, rng_len, Option.isSome_some, Int.zero_add, viewL, viewS, w_forN, w_forC, kFor_nx, kFor_ct, kFor_bk, kFor_rt, x_lcD, x_jSq, kSq, x_jZp, jZ0_T, jZ0_L, kR1_eq, kR2_eq, kEn_eq, kZp_eq, kZp_T, x_iR1, x_iR2, x_iEn, x_iZp, x_iSq, it_L, it_T, x_slL, q_slS, q_listD, q_listN, q_listNT, q_listDT, q_tupL, q_tupT, PyData.list.injEq, PyData.tuple.injEq, w_frzM, exists_eq, exists_eq', q_gTu2, q_gTu3, Int.reducePow, q_intB, q_mkT0, q_mkT1, q_mkT2, q_mkT3, q_alD0, q_alD1, q_alD2, q_alD3, q_alD4, alloc_N, Int.reduceLT, Int.reduceLE, Nat.reduceLT, Nat.reduceLeDiff, Int.reduceToNat, or_true, true_or, Fl.rt.injEq, Val.d.injEq, Bool.not_true, Bool.not_false, hm]
  · rw [List.map_map, show ((fun _ => Val.d (.bool true)) ∘ Val.d : PyData → Val) = Val.d ∘ (fun _ => PyData.bool true) from rfl, ← List.map_map, alloc_D]
    simp only [w_seq, w_nil, w_ret, w_expr, w_asg, w_if, x_par, kPar_eq, Bool.false_xor, Bool.true_xor, w_for, w_c, w_bin, w_aNil, w_aCons, w_cb, w_call, w_tst, w_not, w_and, w_or, w_eif, w_frzE, x_eAnd, x_eOr, bif2_d, w_eNot, w_eNeg, x_chain, w_mt, w_isi, w_lst, w_tup, w_eSl, w_oSo, w_oNo, eVar, wp_some, wp_bnd, wp_map, wpS_some, bnd_some, kSeq_nx, kSeq_rt, kSeq_bk, kSeq_ct, q_addI, q_sub, q_lt, q_gt, q_ge, q_le, q_eqI, q_neI, q_abs, q_max, q_min, q_intI, q_intB, q_lenL, q_lenT, q_ixL, q_ixT, q_gN, q_gsNil, w_gsCons, w_gSub2, q_frzD, List.getElem?_cons_zero, List.getElem?_cons_succ, List.set_cons_zero, List.set_cons_succ, List.length_cons, List.length_nil, if_true, Option.map_some, decide_eq_true_eq, decide_eq_false_iff_not, decide_true, decide_false, Bool.false_eq_true, if_false, forall_const, true_implies, false_implies, and_true, true_and, reduceIte, reduceCtorEq, List.length_map, w_mulI, w_modI, w_divI, w_divmod, w_pow, at_0, at_1, at_2, Option.some.injEq, exists_eq_left', exists_eq_left, false_and, or_false, PyData.int.injEq, wp_none, wpS_none, imp_false, Decidable.not_not, sizeLine_eq, Nat.reduceAdd, not_true_eq_false, not_false_eq_true, wp_ite, w_atD, look_d, List.any_cons, List.any_nil, isT, tyN, String.reduceBEq, Bool.or_false, Bool.false_or, Bool.true_or, Bool.or_true, Bool.and_false, Bool.false_and, Bool.true_and, Bool.and_true, beq_self_eq_true, isNo, q_is, q_isnot, q_eqB, q_neB, q_eqS, q_neS, w_lc, wipeR, gsN, zipD_len, enumD_len, rng_len, Option.isSome_some, Int.zero_add, viewL, viewS, w_forN, w_forC, kFor_nx, kFor_ct, kFor_bk, kFor_rt, x_lcD, x_jSq, kSq, x_jZp, jZ0_T, jZ0_L, kR1_eq, kR2_eq, kEn_eq, kZp_eq, kZp_T, x_iR1, x_iR2, x_iEn, x_iZp, x_iSq, it_L, it_T, x_slL, q_slS, q_listD, q_listN, q_listNT, q_listDT, q_tupL, q_tupT, PyData.list.injEq, PyData.tuple.injEq, w_frzM, exists_eq, exists_eq', q_gTu2, q_gTu3, Int.reducePow, q_intB, q_mkT0, q_mkT1, q_mkT2, q_mkT3, q_alD0, q_alD1, q_alD2, q_alD3, q_alD4, alloc_N, Int.reduceLT, Int.reduceLE, Nat.reduceLT, Nat.reduceLeDiff, Int.reduceToNat, or_true, true_or, Fl.rt.injEq, Val.d.injEq, Bool.not_true, Bool.not_false, q_allT (ds := (zipD (ns.map .int) (ns.map .int)).map fun _ => .bool true) (S := S) (fun d hd => by obtain ⟨_, _, e⟩ := List.mem_map.mp hd; exact e.symm)]
    exact Ex.refl S
def near1 : List Int → Bool
  | x :: y :: r => decide (ab (x - y) ≤ 1) && near1 (y :: r)
  | _ => true
theorem num_eq {i : Int} {S : Sto} : p_is_number [.d (.int i)] S = some (.d (.bool true), S) := by
  unfold p_is_number
  refine w_fnE ?_
  show wpS (f_is_number [some (.d (.int i))] S) _
  unfold f_is_number
  simp only [w_seq, w_nil, w_ret, w_expr, w_asg, w_if, x_par, kPar_eq, Bool.false_xor, Bool.true_xor, w_for, w_c, w_bin, w_aNil, w_aCons, w_cb, w_call, w_tst, w_not, w_and, w_or, w_eif, w_frzE, x_eAnd, x_eOr, bif2_d, w_eNot, w_eNeg, x_chain, w_mt, w_isi, w_lst, w_tup, w_eSl, w_oSo, w_oNo, eVar, wp_some, wp_bnd, wp_map, wpS_some, bnd_some, kSeq_nx, kSeq_rt, kSeq_bk, kSeq_ct, q_addI, q_sub, q_lt, q_gt, q_ge, q_le, q_eqI, q_neI, q_abs, q_max, q_min, q_intI, q_intB, q_lenL, q_lenT, q_ixL, q_ixT, q_gN, q_gsNil, w_gsCons, w_gSub2, q_frzD, List.getElem?_cons_zero, List.getElem?_cons_succ, List.set_cons_zero, List.set_cons_succ, List.length_cons, List.length_nil, if_true, Option.map_some, decide_eq_true_eq, decide_eq_false_iff_not, decide_true, decide_false, Bool.false_eq_true, if_false, forall_const, true_implies, false_implies, and_true, true_and, reduceIte, reduceCtorEq, List.length_map, w_mulI, w_modI, w_divI, w_divmod, w_pow, at_0, at_1, at_2, Option.some.injEq, exists_eq_left', exists_eq_left, false_and, or_false, PyData.int.injEq, wp_none, wpS_none, imp_false, Decidable.not_not, sizeLine_eq, Nat.reduceAdd, not_true_eq_false, not_false_eq_true, wp_ite, w_atD, look_d, List.any_cons, List.any_nil, isT, tyN, String.reduceBEq, Bool.or_false, Bool.false_or, Bool.true_or, Bool.or_true, Bool.and_false, Bool.false_and, Bool.true_and, Bool.and_true, beq_self_eq_true, isNo, q_is, q_isnot, q_eqB, q_neB, q_eqS, q_neS, w_lc, wipeR, gsN, zipD_len, enumD_len, rng_len, Option.isSome_some, Int.zero_add, viewL, viewS, w_forN, w_forC, kFor_nx, kFor_ct, kFor_bk, kFor_rt, x_lcD, x_jSq, kSq, x_jZp, jZ0_T, jZ0_L, kR1_eq, kR2_eq, kEn_eq, kZp_eq, kZp_T, x_iR1, x_iR2, x_iEn, x_iZp, x_iSq, it_L, it_T, x_slL, q_slS, q_listD, q_listN, q_listNT, q_listDT, q_tupL, q_tupT, PyData.list.injEq, PyData.tuple.injEq, w_frzM, exists_eq, exists_eq', q_gTu2, q_gTu3, Int.reducePow, q_intB, q_mkT0, q_mkT1, q_mkT2, q_mkT3, q_alD0, q_alD1, q_alD2, q_alD3, q_alD4, alloc_N, Int.reduceLT, Int.reduceLE, Nat.reduceLT, Nat.reduceLeDiff, Int.reduceToNat, or_true, true_or, Fl.rt.injEq, Val.d.injEq, Bool.not_true, Bool.not_false]
  exact Ex.refl S
theorem zip_near : ∀ ns : List Int, ((zipD (ns.map PyData.int) ((ns.map PyData.int).drop 1)).map fun d => match d with | .tuple [.int x, .int y] => PyData.bool (decide (ab (x - y) ≤ 1)) | _ => .none) = ((ns.zip (ns.drop 1)).map fun p => decide (ab (p.1 - p.2) ≤ 1)).map PyData.bool := by
  have : ∀ xs ys : List Int, ((zipD (xs.map PyData.int) (ys.map PyData.int)).map fun d => match d with | .tuple [.int x, .int y] => PyData.bool (decide (ab (x - y) ≤ 1)) | _ => .none) = ((xs.zip ys).map fun p => decide (ab (p.1 - p.2) ≤ 1)).map PyData.bool := by
    intro xs
    induction xs with
    | nil => intro ys; simp [zipD]
    | cons x xs ih =>
      intro ys
      cases ys with
      | nil => simp [zipD]
      | cons y ys =>
        simp only [List.map_cons, zipD, List.zip_cons_cons, ih ys]
  intro ns
  rw [← List.map_drop]
  exact this ns (ns.drop 1)
theorem near_all : ∀ ns : List Int, ((ns.zip (ns.drop 1)).map fun p => decide (ab (p.1 - p.2) ≤ 1)).all id = near1 ns
  | [] => rfl
  | [x] => rfl
  | x :: y :: r => by
    have ih := near_all (y :: r)
    simp only [List.drop_succ_cons, List.drop_zero] at ih ⊢
    simp only [List.zip_cons_cons, List.map_cons, List.all_cons, id_eq, near1]
    rw [ih]
def nearV : Val → Val
  | .d (.tuple [.int x, .int y]) => .d (.bool (decide (ab (x - y) ≤ 1)))
  | _ => .d .none
theorem track_q {k : Nat} {ns : List Int} {S : Sto} (h : S[k]? = some (ic ns)) (h0 : ns ≠ []) (hl : ns.length < 1000000) : p_is_track [.c k] S = some (.d (.bool (near1 ns)), S) := by
  unfold p_is_track
  refine w_fnE ?_
  show wpS (f_is_track [some (.c k), none, none] S) _
  unfold f_is_track
  have h' : S[k]? = some (.lst ((ns.map PyData.int).map Val.d)) := h
  have eqn : gEq (.c k) (.d (.list [])) S = some (.d (.bool false), S) := by
    have hp : ∀ ns : List Int, PyData.plainAll (ns.map PyData.int) = true := fun ns => by
      induction ns with
      | nil => rfl
      | cons n r ih => simp only [List.map_cons, PyData.plainAll, PyData.plain, ih, Bool.and_self]
    unfold gEq
    rw [look_c h', look_d]
    have hpl : (PyData.list (ns.map PyData.int)).plain = true := by simpa only [PyData.plain] using hp ns
    have hd : min (PyData.list (ns.map PyData.int)).depth (PyData.list []).depth ≤ 60 := Nat.le_trans (Nat.min_le_right _ _) (by decide)
    have he : PyData.eqv (.list (ns.map PyData.int)) (.list []) = false := by
      cases ns with
      | nil => exact absurd rfl h0
      | cons n r => rfl
    simp only [dEqv, hpl, show (PyData.list []).plain = true from rfl, decide_eq_true hd, Bool.and_self, if_true, he, Option.map_some]
  have hsl : gSl .D (.c k) (some 1) none S = some (.d (.list ((ns.map PyData.int).drop 1)), S) := by
    unfold gSl
    simp only [viewL_c h', cut_from (show (0 : Int) ≤ 1 by decide)]
    rw [← List.map_drop, alloc_D]
    rfl
  simp only [w_seq, w_nil, w_ret, w_expr, w_asg, w_if, x_par, kPar_eq, Bool.false_xor, Bool.true_xor, w_for, w_c, w_bin, w_aNil, w_aCons, w_cb, w_call, w_tst, w_not, w_and, w_or, w_eif, w_frzE, x_eAnd, x_eOr, bif2_d, w_eNot, w_eNeg, x_chain, w_mt, w_isi, w_lst, w_tup, w_eSl, w_oSo, w_oNo, eVar, wp_some, wp_bnd, wp_map, wpS_some, bnd_some, kSeq_nx, kSeq_rt, kSeq_bk, kSeq_ct, q_addI, q_sub, q_lt, q_gt, q_ge, q_le, q_eqI, q_neI, q_abs, q_max, q_min, q_intI, q_intB, q_lenL, q_lenT, q_ixL, q_ixT, q_gN, q_gsNil, w_gsCons, w_gSub2, q_frzD, List.getElem?_cons_zero, List.getElem?_cons_succ, List.set_cons_zero, List.set_cons_succ, List.length_cons, List.length_nil, if_true, Option.map_some, decide_eq_true_eq, decide_eq_false_iff_not, decide_true, decide_false, Bool.false_eq_true, if_false, forall_const, true_implies, false_implies, and_true, true_and, reduceIte, reduceCtorEq, List.length_map, w_mulI, w_modI, w_divI, w_divmod, w_pow, at_0, at_1, at_2, Option.some.injEq, exists_eq_left', exists_eq_left, false_and, or_false, PyData.int.injEq, wp_none, wpS_none, imp_false, Decidable.not_not, sizeLine_eq, Nat.reduceAdd, not_true_eq_false, not_false_eq_true, wp_ite, w_atD, look_d, List.any_cons, List.any_nil, isT, tyN, String.reduceBEq, Bool.or_false, Bool.false_or, Bool.true_or, Bool.or_true, Bool.and_false, Bool.false_and, Bool.true_and, Bool.and_true, beq_self_eq_true, isNo, q_is, q_isnot, q_eqB, q_neB, q_eqS, q_neS, w_lc, wipeR, gsN, zipD_len, enumD_len, rng_len, Option.isSome_some, Int.zero_add, viewL, viewS, w_forN, w_forC, kFor_nx, kFor_ct, kFor_bk, kFor_rt, x_lcD, x_jSq, kSq, x_jZp, jZ0_T, jZ0_L, kR1_eq, kR2_eq, kEn_eq, kZp_eq, kZp_T, x_iR1, x_iR2, x_iEn, x_iZp, x_iSq, it_L, it_T, x_slL, q_slS, q_listD, q_listN, q_listNT, q_listDT, q_tupL, q_tupT, PyData.list.injEq, PyData.tuple.injEq, w_frzM, exists_eq, exists_eq', q_gTu2, q_gTu3, Int.reducePow, q_intB, q_mkT0, q_mkT1, q_mkT2, q_mkT3, q_alD0, q_alD1, q_alD2, q_alD3, q_alD4, alloc_N, Int.reduceLT, Int.reduceLE, Nat.reduceLT, Nat.reduceLeDiff, Int.reduceToNat, or_true, true_or, Fl.rt.injEq, Val.d.injEq, Bool.not_true, Bool.not_false, look_c h', eqn, hsl, jZ0_c h']
  refine ⟨by rw [viewQ_L rfl, viewL_c h']; rfl, ?_⟩
  refine w_lcDP (items := (ns.map PyData.int).map Val.d) (fun _ => .d (.bool true)) (dSeq_c h') (by rw [List.length_map, List.length_map]; omega) (fun x hx => ?_) ?_
  · obtain ⟨d, hd, rfl⟩ := List.mem_map.mp hx
    obtain ⟨i, _, rfl⟩ := List.mem_map.mp hd
    simp only [w_seq, w_nil, w_ret, w_expr, w_asg, w_if, x_par, kPar_eq, Bool.false_xor, Bool.true_xor, w_for, w_c, w_bin, w_aNil, w_aCons, w_cb, w_call, w_tst, w_not, w_and, w_or, w_eif, w_frzE, x_eAnd, x_eOr, bif2_d, w_eNot, w_eNeg, x_chain, w_mt, w_isi, w_lst, w_tup, w_eSl, w_oSo, w_oNo, eVar, wp_some, wp_bnd, wp_map, wpS_some, bnd_some, kSeq_nx, kSeq_rt, kSeq_bk, kSeq_ct, q_addI, q_sub, q_lt, q_gt, q_ge, q_le, q_eqI, q_neI, q_abs, q_max, q_min, q_intI, q_intB, q_lenL, q_lenT, q_ixL, q_ixT, q_gN, q_gsNil, w_gsCons, w_gSub2, q_frzD, List.getElem?_cons_zero, List.getElem?_cons_succ, List.set_cons_zero, List.set_cons_succ, List.length_cons, List.length_nil, if_true, Option.map_some, decide_eq_true_eq, decide_eq_false_iff_not, decide_true, decide_false, Bool.false_eq_true, if_false, forall_const, true_implies, false_implies, and_true, true_and, reduceIte, reduceCtorEq, List.length_map, w_mulI, w_modI, w_divI, w_divmod, w_pow, at_0, at_1, at_2, Option.some.injEq, exists_eq_left', exists_eq_left, false_and, or_false, PyData.int.injEq, wp_none, wpS_none, imp_false, Decidable.not_not, sizeLine_eq, Nat.reduceAdd, not_true_eq_false, not_false_eq_true, wp_ite, w_atD, look_d, List.any_cons, List.any_nil, isT, tyN, String.reduceBEq, Bool.or_false, Bool.false_or, Bool.true_or, Bool.or_true, Bool.and_false, Bool.false_and, Bool.true_and, Bool.and_true, beq_self_eq_true, isNo, q_is, q_isnot, q_eqB, q_neB, q_eqS, q_neS, w_lc, wipeR, gsN, zipD_len, enumD_len, rng_len, Option.isSome_some, Int.zero_add, viewL, viewS, w_forN, w_forC, kFor_nx, kFor_ct, kFor_bk, kFor_rt, x_lcD, x_jSq, kSq, x_jZp, jZ0_T, jZ0_L, kR1_eq, kR2_eq, kEn_eq, kZp_eq, kZp_T, x_iR1, x_iR2, x_iEn, x_iZp, x_iSq, it_L, it_T, x_slL, q_slS, q_listD, q_listN, q_listNT, q_listDT, q_tupL, q_tupT, PyData.list.injEq, PyData.tuple.injEq, w_frzM, exists_eq, exists_eq', q_gTu2, q_gTu3, Int.reducePow, q_intB, q_mkT0, q_mkT1, q_mkT2, q_mkT3, q_alD0, q_alD1, q_alD2, q_alD3, q_alD4, alloc_N, Int.reduceLT, Int.reduceLE, Nat.reduceLT, Nat.reduceLeDiff, Int.reduceToNat, or_true, true_or, Fl.rt.injEq, Val.d.injEq, Bool.not_true, Bool.not_false, num_eq]
  rw [List.map_map, show ((fun _ => Val.d (.bool true)) ∘ Val.d : PyData → Val) = Val.d ∘ (fun _ => PyData.bool true) from rfl, ← List.map_map, alloc_D]
  simp only [w_seq, w_nil, w_ret, w_expr, w_asg, w_if, x_par, kPar_eq, Bool.false_xor, Bool.true_xor, w_for, w_c, w_bin, w_aNil, w_aCons, w_cb, w_call, w_tst, w_not, w_and, w_or, w_eif, w_frzE, x_eAnd, x_eOr, bif2_d, w_eNot, w_eNeg, x_chain, w_mt, w_isi, w_lst, w_tup, w_eSl, w_oSo, w_oNo, eVar, wp_some, wp_bnd, wp_map, wpS_some, bnd_some, kSeq_nx, kSeq_rt, kSeq_bk, kSeq_ct, q_addI, q_sub, q_lt, q_gt, q_ge, q_le, q_eqI, q_neI, q_abs, q_max, q_min, q_intI, q_intB, q_lenL, q_lenT, q_ixL, q_ixT, q_gN, q_gsNil, w_gsCons, w_gSub2, q_frzD, List.getElem?_cons_zero, List.getElem?_cons_succ, List.set_cons_zero, List.set_cons_succ, List.length_cons, List.length_nil, if_true, Option.map_some, decide_eq_true_eq, decide_eq_false_iff_not, decide_true, decide_false, Bool.false_eq_true, if_false, forall_const, true_implies, false_implies, and_true, true_and, reduceIte, reduceCtorEq, List.length_map, w_mulI, w_modI, w_divI, w_divmod, w_pow, at_0, at_1, at_2, Option.some.injEq, exists_eq_left', exists_eq_left, false_and, or_false, PyData.int.injEq, wp_none, wpS_none, imp_false, Decidable.not_not, sizeLine_eq, Nat.reduceAdd, not_true_eq_false, not_false_eq_true, wp_ite, w_atD, look_d, List.any_cons, List.any_nil, isT, tyN, String.reduceBEq, Bool.or_false, Bool.false_or, Bool.true_or, Bool.or_true, Bool.and_false, Bool.false_and, Bool.true_and, Bool.and_true, beq_self_eq_true, isNo, q_is, q_isnot, q_eqB, q_neB, q_eqS, q_neS, w_lc, wipeR, gsN, zipD_len, enumD_len, rng_len, Option.isSome_some, Int.zero_add, viewL, viewS, w_forN, w_forC, kFor_nx, kFor_ct, kFor_bk, kFor_rt, x_lcD, x_jSq, kSq, x_jZp, jZ0_T, jZ0_L, kR1_eq, kR2_eq, kEn_eq, kZp_eq, kZp_T, x_iR1, x_iR2, x_iEn, x_iZp, x_iSq, it_L, it_T, x_slL, q_slS, q_listD, q_listN, q_listNT, q_listDT, q_tupL, q_tupT, PyData.list.injEq, PyData.tuple.injEq, w_frzM, exists_eq, exists_eq', q_gTu2, q_gTu3, Int.reducePow, q_intB, q_mkT0, q_mkT1, q_mkT2, q_mkT3, q_alD0, q_alD1, q_alD2, q_alD3, q_alD4, alloc_N, Int.reduceLT, Int.reduceLE, Nat.reduceLT, Nat.reduceLeDiff, Int.reduceToNat, or_true, true_or, Fl.rt.injEq, Val.d.injEq, Bool.not_true, Bool.not_false, q_allT (ds := (ns.map PyData.int).map fun _ => .bool true) (S := S) (fun d hd => by obtain ⟨_, _, e⟩ := List.mem_map.mp hd; exact e.symm), hsl, jZ0_c h']
  refine w_lcDP (items := (zipD (ns.map .int) ((ns.map PyData.int).drop 1)).map Val.d) nearV (dZp_c h') (by rw [List.length_map, zipD_len, List.length_map]; omega) (fun x hx => ?_) ?_
  · obtain ⟨d, hd, rfl⟩ := List.mem_map.mp hx
    obtain ⟨i, hi⟩ := List.mem_iff_getElem?.mp hd
    obtain ⟨x, y, h1, h2, rfl⟩ := zp_get hi
    obtain ⟨x, _, rfl⟩ := map_get h1
    rw [← List.map_drop] at h2
    obtain ⟨y, _, rfl⟩ := map_get h2
    simp only [w_seq, w_nil, w_ret, w_expr, w_asg, w_if, x_par, kPar_eq, Bool.false_xor, Bool.true_xor, w_for, w_c, w_bin, w_aNil, w_aCons, w_cb, w_call, w_tst, w_not, w_and, w_or, w_eif, w_frzE, x_eAnd, x_eOr, bif2_d, w_eNot, w_eNeg, x_chain, w_mt, w_isi, w_lst, w_tup, w_eSl, w_oSo, w_oNo, eVar, wp_some, wp_bnd, wp_map, wpS_some, bnd_some, kSeq_nx, kSeq_rt, kSeq_bk, kSeq_ct, q_addI, q_sub, q_lt, q_gt, q_ge, q_le, q_eqI, q_neI, q_abs, q_max, q_min, q_intI, q_intB, q_lenL, q_lenT, q_ixL, q_ixT, q_gN, q_gsNil, w_gsCons, w_gSub2, q_frzD, List.getElem?_cons_zero, List.getElem?_cons_succ, List.set_cons_zero, List.set_cons_succ, List.length_cons, List.length_nil, if_true, Option.map_some, decide_eq_true_eq, decide_eq_false_iff_not, decide_true, decide_false, Bool.false_eq_true, if_false, forall_const, true_implies, false_implies, and_true, true_and, reduceIte, reduceCtorEq, List.length_map, w_mulI, w_modI, w_divI, w_divmod, w_pow, at_0, at_1, at_2, Option.some.injEq, exists_eq_left', exists_eq_left, false_and, or_false, PyData.int.injEq, wp_none, wpS_none, imp_false, Decidable.not_not, sizeLine_eq, Nat.reduceAdd, not_true_eq_false, not_false_eq_true, wp_ite, w_atD, look_d, List.any_cons, List.any_nil, isT, tyN, String.reduceBEq, Bool.or_false, Bool.false_or, Bool.true_or, Bool.or_true, Bool.and_false, Bool.false_and, Bool.true_and, Bool.and_true, beq_self_eq_true, isNo, q_is, q_isnot, q_eqB, q_neB, q_eqS, q_neS, w_lc, wipeR, gsN, zipD_len, enumD_len, rng_len, Option.isSome_some, Int.zero_add, viewL, viewS, w_forN, w_forC, kFor_nx, kFor_ct, kFor_bk, kFor_rt, x_lcD, x_jSq, kSq, x_jZp, jZ0_T, jZ0_L, kR1_eq, kR2_eq, kEn_eq, kZp_eq, kZp_T, x_iR1, x_iR2, x_iEn, x_iZp, x_iSq, it_L, it_T, x_slL, q_slS, q_listD, q_listN, q_listNT, q_listDT, q_tupL, q_tupT, PyData.list.injEq, PyData.tuple.injEq, w_frzM, exists_eq, exists_eq', q_gTu2, q_gTu3, Int.reducePow, q_intB, q_mkT0, q_mkT1, q_mkT2, q_mkT3, q_alD0, q_alD1, q_alD2, q_alD3, q_alD4, alloc_N, Int.reduceLT, Int.reduceLE, Nat.reduceLT, Nat.reduceLeDiff, Int.reduceToNat, or_true, true_or, Fl.rt.injEq, Val.d.injEq, Bool.not_true, Bool.not_false]
    first | exact ⟨rfl, rfl⟩ | rfl
  · have e : ((zipD (ns.map .int) ((ns.map PyData.int).drop 1)).map Val.d).map nearV = (((ns.zip (ns.drop 1)).map fun p => decide (ab (p.1 - p.2) ≤ 1)).map PyData.bool).map Val.d := by
      rw [← zip_near, List.map_map, List.map_map]
      refine List.map_congr_left fun d hd => ?_
      obtain ⟨i, hi⟩ := List.mem_iff_getElem?.mp hd
      obtain ⟨x, y, h1, h2, rfl⟩ := zp_get hi
      obtain ⟨x, _, rfl⟩ := map_get h1
      rw [← List.map_drop] at h2
      obtain ⟨y, _, rfl⟩ := map_get h2
      rfl
    rw [e, alloc_D, wp_some, q_allD, wp_some, near_all]
    exact ⟨rfl, Ex.refl S⟩
theorem dZp_d {xs es : List PyData} {S : Sto} (i : Nat) : dZp (.d (.list xs)) (.d (.list es)) S i = some ((zipD xs es).map Val.d)[i]? := by
  unfold dZp
  rw [show viewQ S (.d (.list xs)) = some (xs.map .d) from rfl, show viewQ S (.d (.list es)) = some (es.map .d) from rfl]
  simp only [List.getElem?_map]
  cases hx : xs[i]? with
  | none =>
    have : (zipD xs es)[i]? = none := by
      rw [List.getElem?_eq_none_iff] at *
      rw [zipD_len]
      omega
    rw [this]
    rfl
  | some x =>
    cases hy : es[i]? with
    | none =>
      have : (zipD xs es)[i]? = none := by
        rw [List.getElem?_eq_none_iff] at *
        rw [zipD_len]
        omega
      rw [this]
      rfl
    | some y =>
      rw [zipD_get xs es i x y hx hy]
      rfl
theorem track_d {ns : List Int} {S : Sto} (h0 : ns ≠ []) (hl : ns.length < 1000000) : p_is_track [.d (.list (ns.map .int))] S = some (.d (.bool (near1 ns)), S) := by
  unfold p_is_track
  refine w_fnE ?_
  show wpS (f_is_track [some (.d (.list (ns.map .int))), none, none] S) _
  unfold f_is_track
  have eqn : gEq (.d (.list (ns.map .int))) (.d (.list [])) S = some (.d (.bool false), S) := by
    have hp : ∀ ns : List Int, PyData.plainAll (ns.map PyData.int) = true := fun ns => by
      induction ns with
      | nil => rfl
      | cons n r ih => simp only [List.map_cons, PyData.plainAll, PyData.plain, ih, Bool.and_self]
    unfold gEq
    rw [look_d, look_d]
    have hpl : (PyData.list (ns.map PyData.int)).plain = true := by simpa only [PyData.plain] using hp ns
    have hd : min (PyData.list (ns.map PyData.int)).depth (PyData.list []).depth ≤ 60 := Nat.le_trans (Nat.min_le_right _ _) (by decide)
    have he : PyData.eqv (.list (ns.map PyData.int)) (.list []) = false := by
      cases ns with
      | nil => exact absurd rfl h0
      | cons n r => rfl
    simp only [dEqv, hpl, show (PyData.list []).plain = true from rfl, decide_eq_true hd, Bool.and_self, if_true, he, Option.map_some]
  simp only [w_seq, w_nil, w_ret, w_expr, w_asg, w_if, x_par, kPar_eq, Bool.false_xor, Bool.true_xor, w_for, w_c, w_bin, w_aNil, w_aCons, w_cb, w_call, w_tst, w_not, w_and, w_or, w_eif, w_frzE, x_eAnd, x_eOr, bif2_d, w_eNot, w_eNeg, x_chain, w_mt, w_isi, w_lst, w_tup, w_eSl, w_oSo, w_oNo, eVar, wp_some, wp_bnd, wp_map, wpS_some, bnd_some, kSeq_nx, kSeq_rt, kSeq_bk, kSeq_ct, q_addI, q_sub, q_lt, q_gt, q_ge, q_le, q_eqI, q_neI, q_abs, q_max, q_min, q_intI, q_intB, q_lenL, q_lenT, q_ixL, q_ixT, q_gN, q_gsNil, w_gsCons, w_gSub2, q_frzD, List.getElem?_cons_zero, List.getElem?_cons_succ, List.set_cons_zero, List.set_cons_succ, List.length_cons, List.length_nil, if_true, Option.map_some, decide_eq_true_eq, decide_eq_false_iff_not, decide_true, decide_false, Bool.false_eq_true, if_false, forall_const, true_implies, false_implies, and_true, true_and, reduceIte, reduceCtorEq, List.length_map, w_mulI, w_modI, w_divI, w_divmod, w_pow, at_0, at_1, at_2, Option.some.injEq, exists_eq_left', exists_eq_left, false_and, or_false, PyData.int.injEq, wp_none, wpS_none, imp_false, Decidable.not_not, sizeLine_eq, Nat.reduceAdd, not_true_eq_false, not_false_eq_true, wp_ite, w_atD, look_d, List.any_cons, List.any_nil, isT, tyN, String.reduceBEq, Bool.or_false, Bool.false_or, Bool.true_or, Bool.or_true, Bool.and_false, Bool.false_and, Bool.true_and, Bool.and_true, beq_self_eq_true, isNo, q_is, q_isnot, q_eqB, q_neB, q_eqS, q_neS, w_lc, wipeR, gsN, zipD_len, enumD_len, rng_len, Option.isSome_some, Int.zero_add, viewL, viewS, w_forN, w_forC, kFor_nx, kFor_ct, kFor_bk, kFor_rt, x_lcD, x_jSq, kSq, x_jZp, jZ0_T, jZ0_L, kR1_eq, kR2_eq, kEn_eq, kZp_eq, kZp_T, x_iR1, x_iR2, x_iEn, x_iZp, x_iSq, it_L, it_T, x_slL, q_slS, q_listD, q_listN, q_listNT, q_listDT, q_tupL, q_tupT, PyData.list.injEq, PyData.tuple.injEq, w_frzM, exists_eq, exists_eq', q_gTu2, q_gTu3, Int.reducePow, q_intB, q_mkT0, q_mkT1, q_mkT2, q_mkT3, q_alD0, q_alD1, q_alD2, q_alD3, q_alD4, alloc_N, Int.reduceLT, Int.reduceLE, Nat.reduceLT, Nat.reduceLeDiff, Int.reduceToNat, or_true, true_or, Fl.rt.injEq, Val.d.injEq, Bool.not_true, Bool.not_false, eqn, cut_from (show (0 : Int) ≤ 1 by decide), jZ0_L]
  refine ⟨rfl, ?_⟩
  refine w_lcDP (items := (ns.map PyData.int).map Val.d) (fun _ => .d (.bool true)) dSeq_d (by rw [List.length_map, List.length_map]; omega) (fun x hx => ?_) ?_
  · obtain ⟨d, hd, rfl⟩ := List.mem_map.mp hx
    obtain ⟨i, _, rfl⟩ := List.mem_map.mp hd
    simp only [w_seq, w_nil, w_ret, w_expr, w_asg, w_if, x_par, kPar_eq, Bool.false_xor, Bool.true_xor, w_for, w_c, w_bin, w_aNil, w_aCons, w_cb, w_call, w_tst, w_not, w_and, w_or, w_eif, w_frzE, x_eAnd, x_eOr, bif2_d, w_eNot, w_eNeg, x_chain, w_mt, w_isi, w_lst, w_tup, w_eSl, w_oSo, w_oNo, eVar, wp_some, wp_bnd, wp_map, wpS_some, bnd_some, kSeq_nx, kSeq_rt, kSeq_bk, kSeq_ct, q_addI, q_sub, q_lt, q_gt, q_ge, q_le, q_eqI, q_neI, q_abs, q_max, q_min, q_intI, q_intB, q_lenL, q_lenT, q_ixL, q_ixT, q_gN, q_gsNil, w_gsCons, w_gSub2, q_frzD, List.getElem?_cons_zero, List.getElem?_cons_succ, List.set_cons_zero, List.set_cons_succ, List.length_cons, List.length_nil, if_true, Option.map_some, decide_eq_true_eq, decide_eq_false_iff_not, decide_true, decide_false, Bool.false_eq_true, if_false, forall_const, true_implies, false_implies, and_true, true_and, reduceIte, reduceCtorEq, List.length_map, w_mulI, w_modI, w_divI, w_divmod, w_pow, at_0, at_1, at_2, Option.some.injEq, exists_eq_left', exists_eq_left, false_and, or_false, PyData.int.injEq, wp_none, wpS_none, imp_false, Decidable.not_not, sizeLine_eq, Nat.reduceAdd, not_true_eq_false, not_false_eq_true, wp_ite, w_atD, look_d, List.any_cons, List.any_nil, isT, tyN, String.reduceBEq, Bool.or_false, Bool.false_or, Bool.true_or, Bool.or_true, Bool.and_false, Bool.false_and, Bool.true_and, Bool.and_true, beq_self_eq_true, isNo, q_is, q_isnot, q_eqB, q_neB, q_eqS, q_neS, w_lc, wipeR, gsN, zipD_len, enumD_len, rng_len, Option.isSome_some, Int.zero_add, viewL, viewS, w_forN, w_forC, kFor_nx, kFor_ct, kFor_bk, kFor_rt, x_lcD, x_jSq, kSq, x_jZp, jZ0_T, jZ0_L, kR1_eq, kR2_eq, kEn_eq, kZp_eq, kZp_T, x_iR1, x_iR2, x_iEn, x_iZp, x_iSq, it_L, it_T, x_slL, q_slS, q_listD, q_listN, q_listNT, q_listDT, q_tupL, q_tupT, PyData.list.injEq, PyData.tuple.injEq, w_frzM, exists_eq, exists_eq', q_gTu2, q_gTu3, Int.reducePow, q_intB, q_mkT0, q_mkT1, q_mkT2, q_mkT3, q_alD0, q_alD1, q_alD2, q_alD3, q_alD4, alloc_N, Int.reduceLT, Int.reduceLE, Nat.reduceLT, Nat.reduceLeDiff, Int.reduceToNat, or_true, true_or, Fl.rt.injEq, Val.d.injEq, Bool.not_true, Bool.not_false, num_eq]
  rw [List.map_map, show ((fun _ => Val.d (.bool true)) ∘ Val.d : PyData → Val) = Val.d ∘ (fun _ => PyData.bool true) from rfl, ← List.map_map, alloc_D]
  simp only [w_seq, w_nil, w_ret, w_expr, w_asg, w_if, x_par, kPar_eq, Bool.false_xor, Bool.true_xor, w_for, w_c, w_bin, w_aNil, w_aCons, w_cb, w_call, w_tst, w_not, w_and, w_or, w_eif, w_frzE, x_eAnd, x_eOr, bif2_d, w_eNot, w_eNeg, x_chain, w_mt, w_isi, w_lst, w_tup, w_eSl, w_oSo, w_oNo, eVar, wp_some, wp_bnd, wp_map, wpS_some, bnd_some, kSeq_nx, kSeq_rt, kSeq_bk, kSeq_ct, q_addI, q_sub, q_lt, q_gt, q_ge, q_le, q_eqI, q_neI, q_abs, q_max, q_min, q_intI, q_intB, q_lenL, q_lenT, q_ixL, q_ixT, q_gN, q_gsNil, w_gsCons, w_gSub2, q_frzD, List.getElem?_cons_zero, List.getElem?_cons_succ, List.set_cons_zero, List.set_cons_succ, List.length_cons, List.length_nil, if_true, Option.map_some, decide_eq_true_eq, decide_eq_false_iff_not, decide_true, decide_false, Bool.false_eq_true, if_false, forall_const, true_implies, false_implies, and_true, true_and, reduceIte, reduceCtorEq, List.length_map, w_mulI, w_modI, w_divI, w_divmod, w_pow, at_0, at_1, at_2, Option.some.injEq, exists_eq_left', exists_eq_left, false_and, or_false, PyData.int.injEq, wp_none, wpS_none, imp_false, Decidable.not_not, sizeLine_eq, Nat.reduceAdd, not_true_eq_false, not_false_eq_true, wp_ite, w_atD, look_d, List.any_cons, List.any_nil, isT, tyN, String.reduceBEq, Bool.or_false, Bool.false_or, Bool.true_or, Bool.or_true, Bool.and_false, Bool.false_and, Bool.true_and, Bool.and_true, beq_self_eq_true, isNo, q_is, q_isnot, q_eqB, q_neB, q_eqS, q_neS, w_lc, wipeR, gsN, zipD_len, enumD_len, rng_len, Option.isSome_some, Int.zero_add, viewL, viewS, w_forN, w_forC, kFor_nx, kFor_ct, kFor_bk, kFor_rt, x_lcD, x_jSq, kSq, x_jZp, jZ0_T, jZ0_L, kR1_eq, kR2_eq, kEn_eq, kZp_eq, kZp_T, x_iR1, x_iR2, x_iEn, x_iZp, x_iSq, it_L, it_T, x_slL, q_slS, q_listD, q_listN, q_listNT, q_listDT, q_tupL, q_tupT, PyData.list.injEq, PyData.tuple.injEq, w_frzM, exists_eq, exists_eq', q_gTu2, q_gTu3, Int.reducePow, q_intB, q_mkT0, q_mkT1, q_mkT2, q_mkT3, q_alD0, q_alD1, q_alD2, q_alD3, q_alD4, alloc_N, Int.reduceLT, Int.reduceLE, Nat.reduceLT, Nat.reduceLeDiff, Int.reduceToNat, or_true, true_or, Fl.rt.injEq, Val.d.injEq, Bool.not_true, Bool.not_false, q_allT (ds := (ns.map PyData.int).map fun _ => .bool true) (S := S) (fun d hd => by obtain ⟨_, _, e⟩ := List.mem_map.mp hd; exact e.symm), cut_from (show (0 : Int) ≤ 1 by decide), jZ0_L]
  refine w_lcDP (items := (zipD (ns.map .int) ((ns.map PyData.int).drop 1)).map Val.d) nearV dZp_d (by rw [List.length_map, zipD_len, List.length_map]; omega) (fun x hx => ?_) ?_
  · obtain ⟨d, hd, rfl⟩ := List.mem_map.mp hx
    obtain ⟨i, hi⟩ := List.mem_iff_getElem?.mp hd
    obtain ⟨x, y, h1, h2, rfl⟩ := zp_get hi
    obtain ⟨x, _, rfl⟩ := map_get h1
    rw [← List.map_drop] at h2
    obtain ⟨y, _, rfl⟩ := map_get h2
    simp only [w_seq, w_nil, w_ret, w_expr, w_asg, w_if, x_par, kPar_eq, Bool.false_xor, Bool.true_xor, w_for, w_c, w_bin, w_aNil, w_aCons, w_cb, w_call, w_tst, w_not, w_and, w_or, w_eif, w_frzE, x_eAnd, x_eOr, bif2_d, w_eNot, w_eNeg, x_chain, w_mt, w_isi, w_lst, w_tup, w_eSl, w_oSo, w_oNo, eVar, wp_some, wp_bnd, wp_map, wpS_some, bnd_some, kSeq_nx, kSeq_rt, kSeq_bk, kSeq_ct, q_addI, q_sub, q_lt, q_gt, q_ge, q_le, q_eqI, q_neI, q_abs, q_max, q_min, q_intI, q_intB, q_lenL, q_lenT, q_ixL, q_ixT, q_gN, q_gsNil, w_gsCons, w_gSub2, q_frzD, List.getElem?_cons_zero, List.getElem?_cons_succ, List.set_cons_zero, List.set_cons_succ, List.length_cons, List.length_nil, if_true, Option.map_some, decide_eq_true_eq, decide_eq_false_iff_not, decide_true, decide_false, Bool.false_eq_true, if_false, forall_const, true_implies, false_implies, and_true, true_and, reduceIte, reduceCtorEq, List.length_map, w_mulI, w_modI, w_divI, w_divmod, w_pow, at_0, at_1, at_2, Option.some.injEq, exists_eq_left', exists_eq_left, false_and, or_false, PyData.int.injEq, wp_none, wpS_none, imp_false, Decidable.not_not, sizeLine_eq, Nat.reduceAdd, not_true_eq_false, not_false_eq_true, wp_ite, w_atD, look_d, List.any_cons, List.any_nil, isT, tyN, String.reduceBEq, Bool.or_false, Bool.false_or, Bool.true_or, Bool.or_true, Bool.and_false, Bool.false_and, Bool.true_and, Bool.and_true, beq_self_eq_true, isNo, q_is, q_isnot, q_eqB, q_neB, q_eqS, q_neS, w_lc, wipeR, gsN, zipD_len, enumD_len, rng_len, Option.isSome_some, Int.zero_add, viewL, viewS, w_forN, w_forC, kFor_nx, kFor_ct, kFor_bk, kFor_rt, x_lcD, x_jSq, kSq, x_jZp, jZ0_T, jZ0_L, kR1_eq, kR2_eq, kEn_eq, kZp_eq, kZp_T, x_iR1, x_iR2, x_iEn, x_iZp, x_iSq, it_L, it_T, x_slL, q_slS, q_listD, q_listN, q_listNT, q_listDT, q_tupL, q_tupT, PyData.list.injEq, PyData.tuple.injEq, w_frzM, exists_eq, exists_eq', q_gTu2, q_gTu3, Int.reducePow, q_intB, q_mkT0, q_mkT1, q_mkT2, q_mkT3, q_alD0, q_alD1, q_alD2, q_alD3, q_alD4, alloc_N, Int.reduceLT, Int.reduceLE, Nat.reduceLT, Nat.reduceLeDiff, Int.reduceToNat, or_true, true_or, Fl.rt.injEq, Val.d.injEq, Bool.not_true, Bool.not_false]
    first | exact ⟨rfl, rfl⟩ | rfl
  · have e : ((zipD (ns.map .int) ((ns.map PyData.int).drop 1)).map Val.d).map nearV = (((ns.zip (ns.drop 1)).map fun p => decide (ab (p.1 - p.2) ≤ 1)).map PyData.bool).map Val.d := by
      rw [← zip_near, List.map_map, List.map_map]
      refine List.map_congr_left fun d hd => ?_
      obtain ⟨i, hi⟩ := List.mem_iff_getElem?.mp hd
      obtain ⟨x, y, h1, h2, rfl⟩ := zp_get hi
      obtain ⟨x, _, rfl⟩ := map_get h1
      rw [← List.map_drop] at h2
      obtain ⟨y, _, rfl⟩ := map_get h2
      rfl
    rw [e, alloc_D, wp_some, q_allD, wp_some, near_all]
    exact ⟨rfl, Ex.refl S⟩
def seg (w : Nat) (p q : Int × Int) : List Int := ((List.range (way p q).toNat).map fun (i : Nat) => sb p.1 q.1 (i + 1)) ++ List.replicate w q.1
def prs (ps : List (Int × Int)) : List ((Int × Int) × (Int × Int)) := ps.zip (ps.drop 1)
def trk (w : Nat) (p : Int × Int) (ps : List (Int × Int)) : List Int := List.replicate (w + 1) p.1 ++ (prs (p :: ps)).flatMap fun z => seg w z.1 z.2
theorem rep1 {md : Md} {x : PyData} {n : Int} {S : Sto} (h0 : 0 ≤ n) (h1 : n < 1000000) : gMul md (.d (.list [x])) (.d (.int n)) S = alloc md ((List.replicate n.toNat x).map .d) S := by
  unfold gMul alt2 gMulI gI gRep
  simp only [viewS, List.map_cons, List.map_nil, List.length_cons, List.length_nil]
  rw [if_pos ⟨by omega, by omega, by rw [sizeLine_eq]; omega⟩, List.map_replicate]
  congr 1
  generalize n.toNat = m
  induction m with
  | zero => rfl
  | succ m ih => rw [List.replicate_succ, List.flatten_cons, ih, List.replicate_succ]; rfl
theorem zip_prs (ps : List (Int × Int)) : zipD (ps.map vx) ((ps.map vx).drop 1) = (prs ps).map fun p => .tuple [vx p.1, vx p.2] := by
  have : ∀ (xs ys : List (Int × Int)), zipD (xs.map vx) (ys.map vx) = (xs.zip ys).map fun p => .tuple [vx p.1, vx p.2] := by
    intro xs
    induction xs with
    | nil => intro ys; simp [zipD]
    | cons x xs ih =>
      intro ys
      cases ys with
      | nil => simp [zipD]
      | cons y ys => simp only [List.map_cons, zipD, List.zip_cons_cons, ih ys]
  rw [← List.map_drop]
  exact this ps (ps.drop 1)
theorem seg_len {w : Nat} (hw : w < 1000) : ∀ (zs : List ((Int × Int) × (Int × Int))), (∀ z ∈ zs, way z.1 z.2 < 2000) → (zs.flatMap fun z => seg w z.1 z.2).length ≤ zs.length * 3000 := by
  intro zs
  induction zs with
  | nil => intro _; exact Nat.le_refl _
  | cons z zs ih =>
    intro h2
    have := ih (fun y hy => h2 y (List.mem_cons_of_mem _ hy))
    have h3 := h2 z (List.mem_cons_self ..)
    have h4 := way_nn z.1 z.2
    rw [List.flatMap_cons, List.length_append, List.length_cons]
    have : (seg w z.1 z.2).length ≤ 3000 := by
      unfold seg
      rw [List.length_append, List.length_map, List.length_range, List.length_replicate]
      omega
    omega
theorem trackby_ok {p : Int × Int} {ps : List (Int × Int)} {w : Int} {S : Sto} (h0 : 0 ≤ w) (h1 : w < 1000) (hl : ps.length < 1000) (hw : ∀ z ∈ prs (p :: ps), way z.1 z.2 < 2000) :
    wp (p_track_by [.d (.list ((p :: ps).map vx)), .d (.int w)] S) fun r S' => r = .c S.length ∧ ∃ ds : List PyData, S' = S ++ [.lst (ds.map .d)] ∧ ds = (trk w.toNat p ps).map PyData.int := by
  unfold p_track_by
  refine w_fnC ?_
  show wpS (f_track_by [some (.d (.list ((p :: ps).map vx))), some (.d (.int w)), none, none, none, none] S) _
  unfold f_track_by
  (try simp only [w_nil, w_ret, w_expr, w_asg, x_par, kPar_eq, Bool.false_xor, Bool.true_xor, w_for, w_c, w_bin, w_aNil, w_aCons, w_cb, w_call, w_tst, w_not, w_and, w_or, w_eif, w_frzE, x_eAnd, x_eOr, bif2_d, w_eNot, w_eNeg, x_chain, w_mt, w_isi, w_lst, w_tup, w_eSl, w_oSo, w_oNo, eVar, wp_some, wp_bnd, wp_map, wpS_some, bnd_some, kSeq_nx, kSeq_rt, kSeq_bk, kSeq_ct, q_addI, q_sub, q_lt, q_gt, q_ge, q_le, q_eqI, q_neI, q_abs, q_max, q_min, q_intI, q_intB, q_lenL, q_lenT, q_ixL, q_ixT, q_gN, q_gsNil, w_gsCons, w_gSub2, q_frzD, List.getElem?_cons_zero, List.getElem?_cons_succ, List.set_cons_zero, List.set_cons_succ, List.length_cons, List.length_nil, if_true, Option.map_some, decide_eq_true_eq, decide_eq_false_iff_not, decide_true, decide_false, Bool.false_eq_true, if_false, forall_const, true_implies, false_implies, and_true, true_and, reduceIte, reduceCtorEq, List.length_map, w_mulI, w_modI, w_divI, w_divmod, w_pow, at_0, at_1, at_2, Option.some.injEq, exists_eq_left', exists_eq_left, false_and, or_false, PyData.int.injEq, wp_none, wpS_none, imp_false, Decidable.not_not, sizeLine_eq, Nat.reduceAdd, not_true_eq_false, not_false_eq_true, wp_ite, w_atD, look_d, List.any_cons, List.any_nil, isT, tyN, String.reduceBEq, Bool.or_false, Bool.false_or, Bool.true_or, Bool.or_true, Bool.and_false, Bool.false_and, Bool.true_and, Bool.and_true, beq_self_eq_true, isNo, q_is, q_isnot, q_eqB, q_neB, q_eqS, q_neS, w_lc, wipeR, gsN, zipD_len, enumD_len, rng_len, Option.isSome_some, Int.zero_add, viewL, viewS, w_forN, w_forC, kFor_nx, kFor_ct, kFor_bk, kFor_rt, x_lcD, x_jSq, kSq, x_jZp, jZ0_T, jZ0_L, kR1_eq, kR2_eq, kEn_eq, kZp_eq, kZp_T, x_iR1, x_iR2, x_iEn, x_iZp, x_iSq, it_L, it_T, x_slL, q_slS, q_listD, q_listN, q_listNT, q_listDT, q_tupL, q_tupT, PyData.list.injEq, PyData.tuple.injEq, w_frzM, exists_eq, exists_eq', q_gTu2, q_gTu3, Int.reducePow, q_intB, q_mkT0, q_mkT1, q_mkT2, q_mkT3, q_alD0, q_alD1, q_alD2, q_alD3, q_alD4, alloc_N, Int.reduceLT, Int.reduceLE, Nat.reduceLT, Nat.reduceLeDiff, Int.reduceToNat, or_true, true_or, Fl.rt.injEq, Val.d.injEq, Bool.not_true, Bool.not_false, List.map_cons, ix_vx0, rep1 (md := .N) (x := .int p.1) (n := w + 1) (S := S) (by omega) (by omega)]); rw [w_seq]; (try simp only [w_nil, w_ret, w_expr, w_asg, x_par, kPar_eq, Bool.false_xor, Bool.true_xor, w_for, w_c, w_bin, w_aNil, w_aCons, w_cb, w_call, w_tst, w_not, w_and, w_or, w_eif, w_frzE, x_eAnd, x_eOr, bif2_d, w_eNot, w_eNeg, x_chain, w_mt, w_isi, w_lst, w_tup, w_eSl, w_oSo, w_oNo, eVar, wp_some, wp_bnd, wp_map, wpS_some, bnd_some, kSeq_nx, kSeq_rt, kSeq_bk, kSeq_ct, q_addI, q_sub, q_lt, q_gt, q_ge, q_le, q_eqI, q_neI, q_abs, q_max, q_min, q_intI, q_intB, q_lenL, q_lenT, q_ixL, q_ixT, q_gN, q_gsNil, w_gsCons, w_gSub2, q_frzD, List.getElem?_cons_zero, List.getElem?_cons_succ, List.set_cons_zero, List.set_cons_succ, List.length_cons, List.length_nil, if_true, Option.map_some, decide_eq_true_eq, decide_eq_false_iff_not, decide_true, decide_false, Bool.false_eq_true, if_false, forall_const, true_implies, false_implies, and_true, true_and, reduceIte, reduceCtorEq, List.length_map, w_mulI, w_modI, w_divI, w_divmod, w_pow, at_0, at_1, at_2, Option.some.injEq, exists_eq_left', exists_eq_left, false_and, or_false, PyData.int.injEq, wp_none, wpS_none, imp_false, Decidable.not_not, sizeLine_eq, Nat.reduceAdd, not_true_eq_false, not_false_eq_true, wp_ite, w_atD, look_d, List.any_cons, List.any_nil, isT, tyN, String.reduceBEq, Bool.or_false, Bool.false_or, Bool.true_or, Bool.or_true, Bool.and_false, Bool.false_and, Bool.true_and, Bool.and_true, beq_self_eq_true, isNo, q_is, q_isnot, q_eqB, q_neB, q_eqS, q_neS, w_lc, wipeR, gsN, zipD_len, enumD_len, rng_len, Option.isSome_some, Int.zero_add, viewL, viewS, w_forN, w_forC, kFor_nx, kFor_ct, kFor_bk, kFor_rt, x_lcD, x_jSq, kSq, x_jZp, jZ0_T, jZ0_L, kR1_eq, kR2_eq, kEn_eq, kZp_eq, kZp_T, x_iR1, x_iR2, x_iEn, x_iZp, x_iSq, it_L, it_T, x_slL, q_slS, q_listD, q_listN, q_listNT, q_listDT, q_tupL, q_tupT, PyData.list.injEq, PyData.tuple.injEq, w_frzM, exists_eq, exists_eq', q_gTu2, q_gTu3, Int.reducePow, q_intB, q_mkT0, q_mkT1, q_mkT2, q_mkT3, q_alD0, q_alD1, q_alD2, q_alD3, q_alD4, alloc_N, Int.reduceLT, Int.reduceLE, Nat.reduceLT, Nat.reduceLeDiff, Int.reduceToNat, or_true, true_or, Fl.rt.injEq, Val.d.injEq, Bool.not_true, Bool.not_false, List.map_cons, ix_vx0, rep1 (md := .N) (x := .int p.1) (n := w + 1) (S := S) (by omega) (by omega)])
  simp only [w_seq, w_nil, w_ret, w_expr, w_asg, w_if, x_par, kPar_eq, Bool.false_xor, Bool.true_xor, w_for, w_c, w_bin, w_aNil, w_aCons, w_cb, w_call, w_tst, w_not, w_and, w_or, w_eif, w_frzE, x_eAnd, x_eOr, bif2_d, w_eNot, w_eNeg, x_chain, w_mt, w_isi, w_lst, w_tup, w_eSl, w_oSo, w_oNo, eVar, wp_some, wp_bnd, wp_map, wpS_some, bnd_some, kSeq_nx, kSeq_rt, kSeq_bk, kSeq_ct, q_addI, q_sub, q_lt, q_gt, q_ge, q_le, q_eqI, q_neI, q_abs, q_max, q_min, q_intI, q_intB, q_lenL, q_lenT, q_ixL, q_ixT, q_gN, q_gsNil, w_gsCons, w_gSub2, q_frzD, List.getElem?_cons_zero, List.getElem?_cons_succ, List.set_cons_zero, List.set_cons_succ, List.length_cons, List.length_nil, if_true, Option.map_some, decide_eq_true_eq, decide_eq_false_iff_not, decide_true, decide_false, Bool.false_eq_true, if_false, forall_const, true_implies, false_implies, and_true, true_and, reduceIte, reduceCtorEq, List.length_map, w_mulI, w_modI, w_divI, w_divmod, w_pow, at_0, at_1, at_2, Option.some.injEq, exists_eq_left', exists_eq_left, false_and, or_false, PyData.int.injEq, wp_none, wpS_none, imp_false, Decidable.not_not, sizeLine_eq, Nat.reduceAdd, not_true_eq_false, not_false_eq_true, wp_ite, w_atD, look_d, List.any_cons, List.any_nil, isT, tyN, String.reduceBEq, Bool.or_false, Bool.false_or, Bool.true_or, Bool.or_true, Bool.and_false, Bool.false_and, Bool.true_and, Bool.and_true, beq_self_eq_true, isNo, q_is, q_isnot, q_eqB, q_neB, q_eqS, q_neS, w_lc, wipeR, gsN, zipD_len, enumD_len, rng_len, Option.isSome_some, Int.zero_add, viewL, viewS, w_forN, w_forC, kFor_nx, kFor_ct, kFor_bk, kFor_rt, x_lcD, x_jSq, kSq, x_jZp, jZ0_T, jZ0_L, kR1_eq, kR2_eq, kEn_eq, kZp_eq, kZp_T, x_iR1, x_iR2, x_iEn, x_iZp, x_iSq, it_L, it_T, x_slL, q_slS, q_listD, q_listN, q_listNT, q_listDT, q_tupL, q_tupT, PyData.list.injEq, PyData.tuple.injEq, w_frzM, exists_eq, exists_eq', q_gTu2, q_gTu3, Int.reducePow, q_intB, q_mkT0, q_mkT1, q_mkT2, q_mkT3, q_alD0, q_alD1, q_alD2, q_alD3, q_alD4, alloc_N, Int.reduceLT, Int.reduceLE, Nat.reduceLT, Nat.reduceLeDiff, Int.reduceToNat, or_true, true_or, Fl.rt.injEq, Val.d.injEq, Bool.not_true, Bool.not_false, cut_from (show (0 : Int) ≤ 1 by decide)]
  have hz := zip_prs (p :: ps)
  rw [List.map_cons] at hz
  rw [hz, show (w + 1).toNat = w.toNat + 1 by omega]
  obtain ⟨I, hI⟩ : ∃ X : Nat → Rho → Sto → Prop, X = fun (i : Nat) (ρ : Rho) (S' : Sto) => ∃ (u1 u2 u3 : Option Val), ρ = [some (.d (.list (vx p :: ps.map vx))), some (.d (.int w)), some (.c S.length), u1, u2, u3] ∧ S' = S ++ [.lst (((List.replicate (w.toNat + 1) p.1 ++ ((prs (p :: ps)).take i).flatMap fun z => seg w.toNat z.1 z.2).map PyData.int).map Val.d)] := ⟨_, rfl⟩
  have lenB : ∀ (zs : List ((Int × Int) × (Int × Int))), zs.length ≤ 1000 → (∀ z ∈ zs, way z.1 z.2 < 2000) → (zs.flatMap fun z => seg w.toNat z.1 z.2).length ≤ zs.length * 3000 := by
    intro zs
    induction zs with
    | nil => intro _ _; exact Nat.le_refl _
    | cons z zs ih =>
      intro h1 h2
      have := ih (by simp only [List.length_cons] at h1; omega) (fun y hy => h2 y (List.mem_cons_of_mem _ hy))
      have h3 := h2 z (List.mem_cons_self ..)
      have h4 := way_nn z.1 z.2
      rw [List.flatMap_cons, List.length_append, List.length_cons]
      have : (seg w.toNat z.1 z.2).length ≤ 3000 := by
        unfold seg
        rw [List.length_append, List.length_map, List.length_range, List.length_replicate]
        omega
      omega
  refine w_loop I (by rw [hI]; exact ⟨_, _, _, rfl, by simp⟩) ?_ ?_
  · intro i d ρ S' hd h
    rw [hI] at h
    obtain ⟨u1, u2, u3, rfl, rfl⟩ := h
    obtain ⟨⟨q, r⟩, hqr, rfl⟩ := map_get hd
    have hi := (List.getElem?_eq_some_iff.mp hqr).1
    have hwr := hw (q, r) (List.mem_of_getElem? hqr)
    have hwn := way_nn q r
    have hlp : (prs (p :: ps)).length ≤ ps.length := by unfold prs; rw [List.length_zip, List.length_drop, List.length_cons]; omega
    have hb := lenB ((prs (p :: ps)).take i) (by rw [List.length_take]; omega) (fun z hz => hw z (List.mem_of_mem_take hz))
    rw [List.length_take] at hb
    generalize hcur : List.replicate (w.toNat + 1) p.1 ++ ((prs (p :: ps)).take i).flatMap (fun z => seg w.toNat z.1 z.2) = cur
    have hcl : cur.length ≤ 4000000 := by
      rw [← hcur, List.length_append, List.length_replicate]
      omega
    simp only [] at hwr
    simp only [w_seq, w_nil, w_ret, w_expr, w_asg, w_if, x_par, kPar_eq, Bool.false_xor, Bool.true_xor, w_for, w_c, w_bin, w_aNil, w_aCons, w_cb, w_call, w_tst, w_not, w_and, w_or, w_eif, w_frzE, x_eAnd, x_eOr, bif2_d, w_eNot, w_eNeg, x_chain, w_mt, w_isi, w_lst, w_tup, w_eSl, w_oSo, w_oNo, eVar, wp_some, wp_bnd, wp_map, wpS_some, bnd_some, kSeq_nx, kSeq_rt, kSeq_bk, kSeq_ct, q_addI, q_sub, q_lt, q_gt, q_ge, q_le, q_eqI, q_neI, q_abs, q_max, q_min, q_intI, q_intB, q_lenL, q_lenT, q_ixL, q_ixT, q_gN, q_gsNil, w_gsCons, w_gSub2, q_frzD, List.getElem?_cons_zero, List.getElem?_cons_succ, List.set_cons_zero, List.set_cons_succ, List.length_cons, List.length_nil, if_true, Option.map_some, decide_eq_true_eq, decide_eq_false_iff_not, decide_true, decide_false, Bool.false_eq_true, if_false, forall_const, true_implies, false_implies, and_true, true_and, reduceIte, reduceCtorEq, List.length_map, w_mulI, w_modI, w_divI, w_divmod, w_pow, at_0, at_1, at_2, Option.some.injEq, exists_eq_left', exists_eq_left, false_and, or_false, PyData.int.injEq, wp_none, wpS_none, imp_false, Decidable.not_not, sizeLine_eq, Nat.reduceAdd, not_true_eq_false, not_false_eq_true, wp_ite, w_atD, look_d, List.any_cons, List.any_nil, isT, tyN, String.reduceBEq, Bool.or_false, Bool.false_or, Bool.true_or, Bool.or_true, Bool.and_false, Bool.false_and, Bool.true_and, Bool.and_true, beq_self_eq_true, isNo, q_is, q_isnot, q_eqB, q_neB, q_eqS, q_neS, w_lc, wipeR, gsN, zipD_len, enumD_len, rng_len, Option.isSome_some, Int.zero_add, viewL, viewS, w_forN, w_forC, kFor_nx, kFor_ct, kFor_bk, kFor_rt, x_lcD, x_jSq, kSq, x_jZp, jZ0_T, jZ0_L, kR1_eq, kR2_eq, kEn_eq, kZp_eq, kZp_T, x_iR1, x_iR2, x_iEn, x_iZp, x_iSq, it_L, it_T, x_slL, q_slS, q_listD, q_listN, q_listNT, q_listDT, q_tupL, q_tupT, PyData.list.injEq, PyData.tuple.injEq, w_frzM, exists_eq, exists_eq', q_gTu2, q_gTu3, Int.reducePow, q_intB, q_mkT0, q_mkT1, q_mkT2, q_mkT3, q_alD0, q_alD1, q_alD2, q_alD3, q_alD4, alloc_N, Int.reduceLT, Int.reduceLE, Nat.reduceLT, Nat.reduceLeDiff, Int.reduceToNat, or_true, true_or, Fl.rt.injEq, Val.d.injEq, Bool.not_true, Bool.not_false, way_eq, get_new]
    refine ⟨by omega, by omega, ?_⟩
    refine w_lcX (xs := List.range (way q r + 1 - 1).toNat) (v := fun (j : Nat) => .int (1 + (j : Int))) (fun (j : Nat) => .int (sb q.1 r.1 (1 + j))) (fun j _ => ?_) ?_
    · simp only [w_seq, w_nil, w_ret, w_expr, w_asg, w_if, x_par, kPar_eq, Bool.false_xor, Bool.true_xor, w_for, w_c, w_bin, w_aNil, w_aCons, w_cb, w_call, w_tst, w_not, w_and, w_or, w_eif, w_frzE, x_eAnd, x_eOr, bif2_d, w_eNot, w_eNeg, x_chain, w_mt, w_isi, w_lst, w_tup, w_eSl, w_oSo, w_oNo, eVar, wp_some, wp_bnd, wp_map, wpS_some, bnd_some, kSeq_nx, kSeq_rt, kSeq_bk, kSeq_ct, q_addI, q_sub, q_lt, q_gt, q_ge, q_le, q_eqI, q_neI, q_abs, q_max, q_min, q_intI, q_intB, q_lenL, q_lenT, q_ixL, q_ixT, q_gN, q_gsNil, w_gsCons, w_gSub2, q_frzD, List.getElem?_cons_zero, List.getElem?_cons_succ, List.set_cons_zero, List.set_cons_succ, List.length_cons, List.length_nil, if_true, Option.map_some, decide_eq_true_eq, decide_eq_false_iff_not, decide_true, decide_false, Bool.false_eq_true, if_false, forall_const, true_implies, false_implies, and_true, true_and, reduceIte, reduceCtorEq, List.length_map, w_mulI, w_modI, w_divI, w_divmod, w_pow, at_0, at_1, at_2, Option.some.injEq, exists_eq_left', exists_eq_left, false_and, or_false, PyData.int.injEq, wp_none, wpS_none, imp_false, Decidable.not_not, sizeLine_eq, Nat.reduceAdd, not_true_eq_false, not_false_eq_true, wp_ite, w_atD, look_d, List.any_cons, List.any_nil, isT, tyN, String.reduceBEq, Bool.or_false, Bool.false_or, Bool.true_or, Bool.or_true, Bool.and_false, Bool.false_and, Bool.true_and, Bool.and_true, beq_self_eq_true, isNo, q_is, q_isnot, q_eqB, q_neB, q_eqS, q_neS, w_lc, wipeR, gsN, zipD_len, enumD_len, rng_len, Option.isSome_some, Int.zero_add, viewL, viewS, w_forN, w_forC, kFor_nx, kFor_ct, kFor_bk, kFor_rt, x_lcD, x_jSq, kSq, x_jZp, jZ0_T, jZ0_L, kR1_eq, kR2_eq, kEn_eq, kZp_eq, kZp_T, x_iR1, x_iR2, x_iEn, x_iZp, x_iSq, it_L, it_T, x_slL, q_slS, q_listD, q_listN, q_listNT, q_listDT, q_tupL, q_tupT, PyData.list.injEq, PyData.tuple.injEq, w_frzM, exists_eq, exists_eq', q_gTu2, q_gTu3, Int.reducePow, q_intB, q_mkT0, q_mkT1, q_mkT2, q_mkT3, q_alD0, q_alD1, q_alD2, q_alD3, q_alD4, alloc_N, Int.reduceLT, Int.reduceLE, Nat.reduceLT, Nat.reduceLeDiff, Int.reduceToNat, or_true, true_or, Fl.rt.injEq, Val.d.injEq, Bool.not_true, Bool.not_false, go_eq, ix_vx0, go]
    rw [alloc_D]
    have hl1 : ((cur.map PyData.int).map Val.d).length = cur.length := by rw [List.length_map, List.length_map]
    have hx1 : ∀ (as : List Int), as.length ≤ 3000 → ∀ (cs : List Int), cs.length ≤ 5000000 → gExtend (.c S.length) [.d (.list (as.map .int))] (S ++ [.lst ((cs.map PyData.int).map Val.d)]) = some (.d .none, S ++ [.lst (((cs ++ as).map PyData.int).map Val.d)]) := by
      intro as h1 cs h2
      unfold gExtend
      simp only [get_new, viewS, List.length_map]
      rw [if_pos (by rw [sizeLine_eq]; omega)]
      simp
    have e1 : ((List.range (way q r + 1 - 1).toNat).map fun (j : Nat) => PyData.int (sb q.1 r.1 (1 + (j : Int)))) = ((List.range (way q r).toNat).map fun (j : Nat) => sb q.1 r.1 (j + 1)).map PyData.int := by
      rw [List.map_map, show way q r + 1 - 1 = way q r by omega]
      refine List.map_congr_left fun j _ => ?_
      show PyData.int (sb q.1 r.1 (1 + (j : Int))) = PyData.int (sb q.1 r.1 ((j : Int) + 1))
      rw [Int.add_comm]
    rw [e1]
    have la : ((List.range (way q r).toNat).map fun (j : Nat) => sb q.1 r.1 (j + 1)).length ≤ 3000 := by rw [List.length_map, List.length_range]; omega
    rw [wp_some, hx1 _ la cur (by omega), wp_some]
    simp only [w_seq, w_nil, w_ret, w_expr, w_asg, w_if, x_par, kPar_eq, Bool.false_xor, Bool.true_xor, w_for, w_c, w_bin, w_aNil, w_aCons, w_cb, w_call, w_tst, w_not, w_and, w_or, w_eif, w_frzE, x_eAnd, x_eOr, bif2_d, w_eNot, w_eNeg, x_chain, w_mt, w_isi, w_lst, w_tup, w_eSl, w_oSo, w_oNo, eVar, wp_some, wp_bnd, wp_map, wpS_some, bnd_some, kSeq_nx, kSeq_rt, kSeq_bk, kSeq_ct, q_addI, q_sub, q_lt, q_gt, q_ge, q_le, q_eqI, q_neI, q_abs, q_max, q_min, q_intI, q_intB, q_lenL, q_lenT, q_ixL, q_ixT, q_gN, q_gsNil, w_gsCons, w_gSub2, q_frzD, List.getElem?_cons_zero, List.getElem?_cons_succ, List.set_cons_zero, List.set_cons_succ, List.length_cons, List.length_nil, if_true, Option.map_some, decide_eq_true_eq, decide_eq_false_iff_not, decide_true, decide_false, Bool.false_eq_true, if_false, forall_const, true_implies, false_implies, and_true, true_and, reduceIte, reduceCtorEq, List.length_map, w_mulI, w_modI, w_divI, w_divmod, w_pow, at_0, at_1, at_2, Option.some.injEq, exists_eq_left', exists_eq_left, false_and, or_false, PyData.int.injEq, wp_none, wpS_none, imp_false, Decidable.not_not, sizeLine_eq, Nat.reduceAdd, not_true_eq_false, not_false_eq_true, wp_ite, w_atD, look_d, List.any_cons, List.any_nil, isT, tyN, String.reduceBEq, Bool.or_false, Bool.false_or, Bool.true_or, Bool.or_true, Bool.and_false, Bool.false_and, Bool.true_and, Bool.and_true, beq_self_eq_true, isNo, q_is, q_isnot, q_eqB, q_neB, q_eqS, q_neS, w_lc, wipeR, gsN, zipD_len, enumD_len, rng_len, Option.isSome_some, Int.zero_add, viewL, viewS, w_forN, w_forC, kFor_nx, kFor_ct, kFor_bk, kFor_rt, x_lcD, x_jSq, kSq, x_jZp, jZ0_T, jZ0_L, kR1_eq, kR2_eq, kEn_eq, kZp_eq, kZp_T, x_iR1, x_iR2, x_iEn, x_iZp, x_iSq, it_L, it_T, x_slL, q_slS, q_listD, q_listN, q_listNT, q_listDT, q_tupL, q_tupT, PyData.list.injEq, PyData.tuple.injEq, w_frzM, exists_eq, exists_eq', q_gTu2, q_gTu3, Int.reducePow, q_intB, q_mkT0, q_mkT1, q_mkT2, q_mkT3, q_alD0, q_alD1, q_alD2, q_alD3, q_alD4, alloc_N, Int.reduceLT, Int.reduceLE, Nat.reduceLT, Nat.reduceLeDiff, Int.reduceToNat, or_true, true_or, Fl.rt.injEq, Val.d.injEq, Bool.not_true, Bool.not_false, get_new, ix_vx0, rep1 (md := .D) h0 (show w < 1000000 by omega), alloc_D]
    have lb : (List.replicate w.toNat r.1).length ≤ 3000 := by rw [List.length_replicate]; omega
    have := hx1 _ lb (cur ++ (List.range (way q r).toNat).map fun (j : Nat) => sb q.1 r.1 (j + 1)) (by rw [List.length_append]; omega)
    rw [List.map_replicate] at this
    rw [this, wp_some, hI]
    refine ⟨_, _, _, rfl, ?_⟩
    rw [← hcur, List.take_add_one, hqr, Option.toList_some, List.flatMap_append, List.flatMap_singleton, List.append_assoc, List.append_assoc]
    rfl
  · intro ρ S' h
    rw [hI] at h
    obtain ⟨u1, u2, u3, rfl, rfl⟩ := h
    rw [List.length_map, List.take_length]
    simp only [w_seq, w_nil, w_ret, w_expr, w_asg, w_if, x_par, kPar_eq, Bool.false_xor, Bool.true_xor, w_for, w_c, w_bin, w_aNil, w_aCons, w_cb, w_call, w_tst, w_not, w_and, w_or, w_eif, w_frzE, x_eAnd, x_eOr, bif2_d, w_eNot, w_eNeg, x_chain, w_mt, w_isi, w_lst, w_tup, w_eSl, w_oSo, w_oNo, eVar, wp_some, wp_bnd, wp_map, wpS_some, bnd_some, kSeq_nx, kSeq_rt, kSeq_bk, kSeq_ct, q_addI, q_sub, q_lt, q_gt, q_ge, q_le, q_eqI, q_neI, q_abs, q_max, q_min, q_intI, q_intB, q_lenL, q_lenT, q_ixL, q_ixT, q_gN, q_gsNil, w_gsCons, w_gSub2, q_frzD, List.getElem?_cons_zero, List.getElem?_cons_succ, List.set_cons_zero, List.set_cons_succ, List.length_cons, List.length_nil, if_true, Option.map_some, decide_eq_true_eq, decide_eq_false_iff_not, decide_true, decide_false, Bool.false_eq_true, if_false, forall_const, true_implies, false_implies, and_true, true_and, reduceIte, reduceCtorEq, List.length_map, w_mulI, w_modI, w_divI, w_divmod, w_pow, at_0, at_1, at_2, Option.some.injEq, exists_eq_left', exists_eq_left, false_and, or_false, PyData.int.injEq, wp_none, wpS_none, imp_false, Decidable.not_not, sizeLine_eq, Nat.reduceAdd, not_true_eq_false, not_false_eq_true, wp_ite, w_atD, look_d, List.any_cons, List.any_nil, isT, tyN, String.reduceBEq, Bool.or_false, Bool.false_or, Bool.true_or, Bool.or_true, Bool.and_false, Bool.false_and, Bool.true_and, Bool.and_true, beq_self_eq_true, isNo, q_is, q_isnot, q_eqB, q_neB, q_eqS, q_neS, w_lc, wipeR, gsN, zipD_len, enumD_len, rng_len, Option.isSome_some, Int.zero_add, viewL, viewS, w_forN, w_forC, kFor_nx, kFor_ct, kFor_bk, kFor_rt, x_lcD, x_jSq, kSq, x_jZp, jZ0_T, jZ0_L, kR1_eq, kR2_eq, kEn_eq, kZp_eq, kZp_T, x_iR1, x_iR2, x_iEn, x_iZp, x_iSq, it_L, it_T, x_slL, q_slS, q_listD, q_listN, q_listNT, q_listDT, q_tupL, q_tupT, PyData.list.injEq, PyData.tuple.injEq, w_frzM, exists_eq, exists_eq', q_gTu2, q_gTu3, Int.reducePow, q_intB, q_mkT0, q_mkT1, q_mkT2, q_mkT3, q_alD0, q_alD1, q_alD2, q_alD3, q_alD4, alloc_N, Int.reduceLT, Int.reduceLE, Nat.reduceLT, Nat.reduceLeDiff, Int.reduceToNat, or_true, true_or, Fl.rt.injEq, Val.d.injEq, Bool.not_true, Bool.not_false]
    exact ⟨_, rfl, rfl⟩
theorem sb_next {x y t : Int} (h : 0 ≤ t) : sb x y t + (if sb x y t < y then 1 else 0) - (if y < sb x y t then 1 else 0) = sb x y (t + 1) := by
  unfold sb
  repeat' split
  all_goals omega
theorem lway_eq {p q : Int × Int} {S : Sto} : p_law_way [.d (vx p), .d (vx q)] S = some (.d (.int (way p q)), S) := by
  unfold p_law_way
  refine w_fnE ?_
  show wpS (f_law_way [some (.d (vx p)), some (.d (vx q))] S) _
  unfold f_law_way vx
  simp only [w_seq, w_nil, w_ret, w_expr, w_asg, w_if, x_par, kPar_eq, Bool.false_xor, Bool.true_xor, w_for, w_c, w_bin, w_aNil, w_aCons, w_cb, w_call, w_tst, w_not, w_and, w_or, w_eif, w_frzE, x_eAnd, x_eOr, bif2_d, w_eNot, w_eNeg, x_chain, w_mt, w_isi, w_lst, w_tup, w_eSl, w_oSo, w_oNo, eVar, wp_some, wp_bnd, wp_map, wpS_some, bnd_some, kSeq_nx, kSeq_rt, kSeq_bk, kSeq_ct, q_addI, q_sub, q_lt, q_gt, q_ge, q_le, q_eqI, q_neI, q_abs, q_max, q_min, q_intI, q_intB, q_lenL, q_lenT, q_ixL, q_ixT, q_gN, q_gsNil, w_gsCons, w_gSub2, q_frzD, List.getElem?_cons_zero, List.getElem?_cons_succ, List.set_cons_zero, List.set_cons_succ, List.length_cons, List.length_nil, if_true, Option.map_some, decide_eq_true_eq, decide_eq_false_iff_not, decide_true, decide_false, Bool.false_eq_true, if_false, forall_const, true_implies, false_implies, and_true, true_and, reduceIte, reduceCtorEq, List.length_map, w_mulI, w_modI, w_divI, w_divmod, w_pow, at_0, at_1, at_2, Option.some.injEq, exists_eq_left', exists_eq_left, false_and, or_false, PyData.int.injEq, wp_none, wpS_none, imp_false, Decidable.not_not, sizeLine_eq, Nat.reduceAdd, not_true_eq_false, not_false_eq_true, wp_ite, w_atD, look_d, List.any_cons, List.any_nil, isT, tyN, String.reduceBEq, Bool.or_false, Bool.false_or, Bool.true_or, Bool.or_true, Bool.and_false, Bool.false_and, Bool.true_and, Bool.and_true, beq_self_eq_true, isNo, q_is, q_isnot, q_eqB, q_neB, q_eqS, q_neS, w_lc, wipeR, gsN, zipD_len, enumD_len, rng_len, Option.isSome_some, Int.zero_add, viewL, viewS, w_forN, w_forC, kFor_nx, kFor_ct, kFor_bk, kFor_rt, x_lcD, x_jSq, kSq, x_jZp, jZ0_T, jZ0_L, kR1_eq, kR2_eq, kEn_eq, kZp_eq, kZp_T, x_iR1, x_iR2, x_iEn, x_iZp, x_iSq, it_L, it_T, x_slL, q_slS, q_listD, q_listN, q_listNT, q_listDT, q_tupL, q_tupT, PyData.list.injEq, PyData.tuple.injEq, w_frzM, exists_eq, exists_eq', q_gTu2, q_gTu3, Int.reducePow, q_intB, q_mkT0, q_mkT1, q_mkT2, q_mkT3, q_alD0, q_alD1, q_alD2, q_alD3, q_alD4, alloc_N, Int.reduceLT, Int.reduceLE, Nat.reduceLT, Nat.reduceLeDiff, Int.reduceToNat, or_true, true_or, Fl.rt.injEq, Val.d.injEq, Bool.not_true, Bool.not_false, List.map_cons, List.map_nil]
  exact ⟨rfl, Ex.refl S⟩
theorem steps_ok {p : Int × Int} {ps : List (Int × Int)} {w : Int} {S : Sto} (h0 : 0 ≤ w) (h1 : w < 1000) (hl : ps.length < 1000) (hw : ∀ z ∈ prs (p :: ps), way z.1 z.2 < 2000) :
    p_law_steps [.d (.list ((p :: ps).map vx)), .d (.int w)] S = some (.d (.list ((trk w.toNat p ps).map .int)), S) := by
  unfold p_law_steps
  refine w_fnE ?_
  show wpS (f_law_steps [some (.d (.list ((p :: ps).map vx))), some (.d (.int w)), none, none, none, none, none] S) _
  unfold f_law_steps
  (try simp only [w_nil, w_ret, w_expr, w_asg, x_par, kPar_eq, Bool.false_xor, Bool.true_xor, w_for, w_c, w_bin, w_aNil, w_aCons, w_cb, w_call, w_tst, w_not, w_and, w_or, w_eif, w_frzE, x_eAnd, x_eOr, bif2_d, w_eNot, w_eNeg, x_chain, w_mt, w_isi, w_lst, w_tup, w_eSl, w_oSo, w_oNo, eVar, wp_some, wp_bnd, wp_map, wpS_some, bnd_some, kSeq_nx, kSeq_rt, kSeq_bk, kSeq_ct, q_addI, q_sub, q_lt, q_gt, q_ge, q_le, q_eqI, q_neI, q_abs, q_max, q_min, q_intI, q_intB, q_lenL, q_lenT, q_ixL, q_ixT, q_gN, q_gsNil, w_gsCons, w_gSub2, q_frzD, List.getElem?_cons_zero, List.getElem?_cons_succ, List.set_cons_zero, List.set_cons_succ, List.length_cons, List.length_nil, if_true, Option.map_some, decide_eq_true_eq, decide_eq_false_iff_not, decide_true, decide_false, Bool.false_eq_true, if_false, forall_const, true_implies, false_implies, and_true, true_and, reduceIte, reduceCtorEq, List.length_map, w_mulI, w_modI, w_divI, w_divmod, w_pow, at_0, at_1, at_2, Option.some.injEq, exists_eq_left', exists_eq_left, false_and, or_false, PyData.int.injEq, wp_none, wpS_none, imp_false, Decidable.not_not, sizeLine_eq, Nat.reduceAdd, not_true_eq_false, not_false_eq_true, wp_ite, w_atD, look_d, List.any_cons, List.any_nil, isT, tyN, String.reduceBEq, Bool.or_false, Bool.false_or, Bool.true_or, Bool.or_true, Bool.and_false, Bool.false_and, Bool.true_and, Bool.and_true, beq_self_eq_true, isNo, q_is, q_isnot, q_eqB, q_neB, q_eqS, q_neS, w_lc, wipeR, gsN, zipD_len, enumD_len, rng_len, Option.isSome_some, Int.zero_add, viewL, viewS, w_forN, w_forC, kFor_nx, kFor_ct, kFor_bk, kFor_rt, x_lcD, x_jSq, kSq, x_jZp, jZ0_T, jZ0_L, kR1_eq, kR2_eq, kEn_eq, kZp_eq, kZp_T, x_iR1, x_iR2, x_iEn, x_iZp, x_iSq, it_L, it_T, x_slL, q_slS, q_listD, q_listN, q_listNT, q_listDT, q_tupL, q_tupT, PyData.list.injEq, PyData.tuple.injEq, w_frzM, exists_eq, exists_eq', q_gTu2, q_gTu3, Int.reducePow, q_intB, q_mkT0, q_mkT1, q_mkT2, q_mkT3, q_alD0, q_alD1, q_alD2, q_alD3, q_alD4, alloc_N, Int.reduceLT, Int.reduceLE, Nat.reduceLT, Nat.reduceLeDiff, Int.reduceToNat, or_true, true_or, Fl.rt.injEq, Val.d.injEq, Bool.not_true, Bool.not_false, List.map_cons, ix_vx0, rep1 (md := .N) (x := .int p.1) (n := w + 1) (S := S) (by omega) (by omega)]); rw [w_seq]; (try simp only [w_nil, w_ret, w_expr, w_asg, x_par, kPar_eq, Bool.false_xor, Bool.true_xor, w_for, w_c, w_bin, w_aNil, w_aCons, w_cb, w_call, w_tst, w_not, w_and, w_or, w_eif, w_frzE, x_eAnd, x_eOr, bif2_d, w_eNot, w_eNeg, x_chain, w_mt, w_isi, w_lst, w_tup, w_eSl, w_oSo, w_oNo, eVar, wp_some, wp_bnd, wp_map, wpS_some, bnd_some, kSeq_nx, kSeq_rt, kSeq_bk, kSeq_ct, q_addI, q_sub, q_lt, q_gt, q_ge, q_le, q_eqI, q_neI, q_abs, q_max, q_min, q_intI, q_intB, q_lenL, q_lenT, q_ixL, q_ixT, q_gN, q_gsNil, w_gsCons, w_gSub2, q_frzD, List.getElem?_cons_zero, List.getElem?_cons_succ, List.set_cons_zero, List.set_cons_succ, List.length_cons, List.length_nil, if_true, Option.map_some, decide_eq_true_eq, decide_eq_false_iff_not, decide_true, decide_false, Bool.false_eq_true, if_false, forall_const, true_implies, false_implies, and_true, true_and, reduceIte, reduceCtorEq, List.length_map, w_mulI, w_modI, w_divI, w_divmod, w_pow, at_0, at_1, at_2, Option.some.injEq, exists_eq_left', exists_eq_left, false_and, or_false, PyData.int.injEq, wp_none, wpS_none, imp_false, Decidable.not_not, sizeLine_eq, Nat.reduceAdd, not_true_eq_false, not_false_eq_true, wp_ite, w_atD, look_d, List.any_cons, List.any_nil, isT, tyN, String.reduceBEq, Bool.or_false, Bool.false_or, Bool.true_or, Bool.or_true, Bool.and_false, Bool.false_and, Bool.true_and, Bool.and_true, beq_self_eq_true, isNo, q_is, q_isnot, q_eqB, q_neB, q_eqS, q_neS, w_lc, wipeR, gsN, zipD_len, enumD_len, rng_len, Option.isSome_some, Int.zero_add, viewL, viewS, w_forN, w_forC, kFor_nx, kFor_ct, kFor_bk, kFor_rt, x_lcD, x_jSq, kSq, x_jZp, jZ0_T, jZ0_L, kR1_eq, kR2_eq, kEn_eq, kZp_eq, kZp_T, x_iR1, x_iR2, x_iEn, x_iZp, x_iSq, it_L, it_T, x_slL, q_slS, q_listD, q_listN, q_listNT, q_listDT, q_tupL, q_tupT, PyData.list.injEq, PyData.tuple.injEq, w_frzM, exists_eq, exists_eq', q_gTu2, q_gTu3, Int.reducePow, q_intB, q_mkT0, q_mkT1, q_mkT2, q_mkT3, q_alD0, q_alD1, q_alD2, q_alD3, q_alD4, alloc_N, Int.reduceLT, Int.reduceLE, Nat.reduceLT, Nat.reduceLeDiff, Int.reduceToNat, or_true, true_or, Fl.rt.injEq, Val.d.injEq, Bool.not_true, Bool.not_false, List.map_cons, ix_vx0, rep1 (md := .N) (x := .int p.1) (n := w + 1) (S := S) (by omega) (by omega)])
  simp only [w_seq, w_nil, w_ret, w_expr, w_asg, w_if, x_par, kPar_eq, Bool.false_xor, Bool.true_xor, w_for, w_c, w_bin, w_aNil, w_aCons, w_cb, w_call, w_tst, w_not, w_and, w_or, w_eif, w_frzE, x_eAnd, x_eOr, bif2_d, w_eNot, w_eNeg, x_chain, w_mt, w_isi, w_lst, w_tup, w_eSl, w_oSo, w_oNo, eVar, wp_some, wp_bnd, wp_map, wpS_some, bnd_some, kSeq_nx, kSeq_rt, kSeq_bk, kSeq_ct, q_addI, q_sub, q_lt, q_gt, q_ge, q_le, q_eqI, q_neI, q_abs, q_max, q_min, q_intI, q_intB, q_lenL, q_lenT, q_ixL, q_ixT, q_gN, q_gsNil, w_gsCons, w_gSub2, q_frzD, List.getElem?_cons_zero, List.getElem?_cons_succ, List.set_cons_zero, List.set_cons_succ, List.length_cons, List.length_nil, if_true, Option.map_some, decide_eq_true_eq, decide_eq_false_iff_not, decide_true, decide_false, Bool.false_eq_true, if_false, forall_const, true_implies, false_implies, and_true, true_and, reduceIte, reduceCtorEq, List.length_map, w_mulI, w_modI, w_divI, w_divmod, w_pow, at_0, at_1, at_2, Option.some.injEq, exists_eq_left', exists_eq_left, false_and, or_false, PyData.int.injEq, wp_none, wpS_none, imp_false, Decidable.not_not, sizeLine_eq, Nat.reduceAdd, not_true_eq_false, not_false_eq_true, wp_ite, w_atD, look_d, List.any_cons, List.any_nil, isT, tyN, String.reduceBEq, Bool.or_false, Bool.false_or, Bool.true_or, Bool.or_true, Bool.and_false, Bool.false_and, Bool.true_and, Bool.and_true, beq_self_eq_true, isNo, q_is, q_isnot, q_eqB, q_neB, q_eqS, q_neS, w_lc, wipeR, gsN, zipD_len, enumD_len, rng_len, Option.isSome_some, Int.zero_add, viewL, viewS, w_forN, w_forC, kFor_nx, kFor_ct, kFor_bk, kFor_rt, x_lcD, x_jSq, kSq, x_jZp, jZ0_T, jZ0_L, kR1_eq, kR2_eq, kEn_eq, kZp_eq, kZp_T, x_iR1, x_iR2, x_iEn, x_iZp, x_iSq, it_L, it_T, x_slL, q_slS, q_listD, q_listN, q_listNT, q_listDT, q_tupL, q_tupT, PyData.list.injEq, PyData.tuple.injEq, w_frzM, exists_eq, exists_eq', q_gTu2, q_gTu3, Int.reducePow, q_intB, q_mkT0, q_mkT1, q_mkT2, q_mkT3, q_alD0, q_alD1, q_alD2, q_alD3, q_alD4, alloc_N, Int.reduceLT, Int.reduceLE, Nat.reduceLT, Nat.reduceLeDiff, Int.reduceToNat, or_true, true_or, Fl.rt.injEq, Val.d.injEq, Bool.not_true, Bool.not_false, cut_from (show (0 : Int) ≤ 1 by decide)]
  have hz := zip_prs (p :: ps)
  rw [List.map_cons] at hz
  rw [hz, show (w + 1).toNat = w.toNat + 1 by omega]
  obtain ⟨I, hI⟩ : ∃ X : Nat → Rho → Sto → Prop, X = fun (i : Nat) (ρ : Rho) (S' : Sto) => ∃ (j : Nat) (u1 u2 u3 u4 : Option Val), ρ = [some (.d (.list (vx p :: ps.map vx))), some (.d (.int w)), some (.c j), u1, u2, u3, u4] ∧ Ex S S' ∧ S.length ≤ j ∧ S'[j]? = some (.lst (((List.replicate (w.toNat + 1) p.1 ++ ((prs (p :: ps)).take i).flatMap fun z => seg w.toNat z.1 z.2).map PyData.int).map Val.d)) := ⟨_, rfl⟩
  refine w_loop I (by rw [hI]; exact ⟨_, _, _, _, _, rfl, Ex.new _ _, Nat.le_refl _, by rw [get_new]; simp⟩) ?_ ?_
  · intro i d ρ S1 hd h
    rw [hI] at h
    obtain ⟨j, u1, u2, u3, u4, rfl, ex, hj, hc⟩ := h
    obtain ⟨⟨q, r⟩, hqr, rfl⟩ := map_get hd
    have hi := (List.getElem?_eq_some_iff.mp hqr).1
    have hwr := hw (q, r) (List.mem_of_getElem? hqr)
    have hwn := way_nn q r
    have hlp : (prs (p :: ps)).length ≤ ps.length := by unfold prs; rw [List.length_zip, List.length_drop, List.length_cons]; omega
    have hb := seg_len (w := w.toNat) (by omega) ((prs (p :: ps)).take i) (fun z hz => hw z (List.mem_of_mem_take hz))
    rw [List.length_take] at hb
    generalize hcur : List.replicate (w.toNat + 1) p.1 ++ ((prs (p :: ps)).take i).flatMap (fun z => seg w.toNat z.1 z.2) = cur at hc
    have hcl : cur.length ≤ 4000000 := by
      rw [← hcur, List.length_append, List.length_replicate]
      omega
    simp only [] at hwr
    simp only [w_seq, w_nil, w_ret, w_expr, w_asg, w_if, x_par, kPar_eq, Bool.false_xor, Bool.true_xor, w_for, w_c, w_bin, w_aNil, w_aCons, w_cb, w_call, w_tst, w_not, w_and, w_or, w_eif, w_frzE, x_eAnd, x_eOr, bif2_d, w_eNot, w_eNeg, x_chain, w_mt, w_isi, w_lst, w_tup, w_eSl, w_oSo, w_oNo, eVar, wp_some, wp_bnd, wp_map, wpS_some, bnd_some, kSeq_nx, kSeq_rt, kSeq_bk, kSeq_ct, q_addI, q_sub, q_lt, q_gt, q_ge, q_le, q_eqI, q_neI, q_abs, q_max, q_min, q_intI, q_intB, q_lenL, q_lenT, q_ixL, q_ixT, q_gN, q_gsNil, w_gsCons, w_gSub2, q_frzD, List.getElem?_cons_zero, List.getElem?_cons_succ, List.set_cons_zero, List.set_cons_succ, List.length_cons, List.length_nil, if_true, Option.map_some, decide_eq_true_eq, decide_eq_false_iff_not, decide_true, decide_false, Bool.false_eq_true, if_false, forall_const, true_implies, false_implies, and_true, true_and, reduceIte, reduceCtorEq, List.length_map, w_mulI, w_modI, w_divI, w_divmod, w_pow, at_0, at_1, at_2, Option.some.injEq, exists_eq_left', exists_eq_left, false_and, or_false, PyData.int.injEq, wp_none, wpS_none, imp_false, Decidable.not_not, sizeLine_eq, Nat.reduceAdd, not_true_eq_false, not_false_eq_true, wp_ite, w_atD, look_d, List.any_cons, List.any_nil, isT, tyN, String.reduceBEq, Bool.or_false, Bool.false_or, Bool.true_or, Bool.or_true, Bool.and_false, Bool.false_and, Bool.true_and, Bool.and_true, beq_self_eq_true, isNo, q_is, q_isnot, q_eqB, q_neB, q_eqS, q_neS, w_lc, wipeR, gsN, zipD_len, enumD_len, rng_len, Option.isSome_some, Int.zero_add, viewL, viewS, w_forN, w_forC, kFor_nx, kFor_ct, kFor_bk, kFor_rt, x_lcD, x_jSq, kSq, x_jZp, jZ0_T, jZ0_L, kR1_eq, kR2_eq, kEn_eq, kZp_eq, kZp_T, x_iR1, x_iR2, x_iEn, x_iZp, x_iSq, it_L, it_T, x_slL, q_slS, q_listD, q_listN, q_listNT, q_listDT, q_tupL, q_tupT, PyData.list.injEq, PyData.tuple.injEq, w_frzM, exists_eq, exists_eq', q_gTu2, q_gTu3, Int.reducePow, q_intB, q_mkT0, q_mkT1, q_mkT2, q_mkT3, q_alD0, q_alD1, q_alD2, q_alD3, q_alD4, alloc_N, Int.reduceLT, Int.reduceLE, Nat.reduceLT, Nat.reduceLeDiff, Int.reduceToNat, or_true, true_or, Fl.rt.injEq, Val.d.injEq, Bool.not_true, Bool.not_false, ix_vx0, lway_eq]
    refine ⟨by omega, ?_⟩
    obtain ⟨J, hJ⟩ : ∃ X : Nat → Rho → Sto → Prop, X = fun (i : Nat) (ρ : Rho) (S' : Sto) => ∃ (u : Option Val), ρ = [some (.d (.list (vx p :: ps.map vx))), some (.d (.int w)), some (.c j), some (.d (vx q)), some (.d (vx r)), some (.d (.int (sb q.1 r.1 i))), u] ∧ Ex S S' ∧ S'[j]? = some (.lst (((cur ++ (List.range i).map fun (a : Nat) => sb q.1 r.1 (a + 1)).map PyData.int).map Val.d)) := ⟨_, rfl⟩
    have sb0 : sb q.1 r.1 ((0 : Nat) : Int) = q.1 := by unfold sb; repeat' split
                                                        all_goals omega
    refine w_loop J (by rw [hJ]; exact ⟨_, by rw [sb0], ex, by simpa using hc⟩) ?_ ?_
    · intro a d ρ S2 hd2 h
      rw [hJ] at h
      obtain ⟨u, rfl, ex2, hc2⟩ := h
      obtain ⟨ha, rfl⟩ := rng_get hd2
      have hz : (((cur ++ (List.range a).map fun (a : Nat) => sb q.1 r.1 (a + 1)).map PyData.int).map Val.d).length < sizeLine := by
        rw [List.length_map, List.length_map, List.length_append, List.length_map, List.length_range, sizeLine_eq]
        omega
      simp only [w_seq, w_nil, w_ret, w_expr, w_asg, w_if, x_par, kPar_eq, Bool.false_xor, Bool.true_xor, w_for, w_c, w_bin, w_aNil, w_aCons, w_cb, w_call, w_tst, w_not, w_and, w_or, w_eif, w_frzE, x_eAnd, x_eOr, bif2_d, w_eNot, w_eNeg, x_chain, w_mt, w_isi, w_lst, w_tup, w_eSl, w_oSo, w_oNo, eVar, wp_some, wp_bnd, wp_map, wpS_some, bnd_some, kSeq_nx, kSeq_rt, kSeq_bk, kSeq_ct, q_addI, q_sub, q_lt, q_gt, q_ge, q_le, q_eqI, q_neI, q_abs, q_max, q_min, q_intI, q_intB, q_lenL, q_lenT, q_ixL, q_ixT, q_gN, q_gsNil, w_gsCons, w_gSub2, q_frzD, List.getElem?_cons_zero, List.getElem?_cons_succ, List.set_cons_zero, List.set_cons_succ, List.length_cons, List.length_nil, if_true, Option.map_some, decide_eq_true_eq, decide_eq_false_iff_not, decide_true, decide_false, Bool.false_eq_true, if_false, forall_const, true_implies, false_implies, and_true, true_and, reduceIte, reduceCtorEq, List.length_map, w_mulI, w_modI, w_divI, w_divmod, w_pow, at_0, at_1, at_2, Option.some.injEq, exists_eq_left', exists_eq_left, false_and, or_false, PyData.int.injEq, wp_none, wpS_none, imp_false, Decidable.not_not, sizeLine_eq, Nat.reduceAdd, not_true_eq_false, not_false_eq_true, wp_ite, w_atD, look_d, List.any_cons, List.any_nil, isT, tyN, String.reduceBEq, Bool.or_false, Bool.false_or, Bool.true_or, Bool.or_true, Bool.and_false, Bool.false_and, Bool.true_and, Bool.and_true, beq_self_eq_true, isNo, q_is, q_isnot, q_eqB, q_neB, q_eqS, q_neS, w_lc, wipeR, gsN, zipD_len, enumD_len, rng_len, Option.isSome_some, Int.zero_add, viewL, viewS, w_forN, w_forC, kFor_nx, kFor_ct, kFor_bk, kFor_rt, x_lcD, x_jSq, kSq, x_jZp, jZ0_T, jZ0_L, kR1_eq, kR2_eq, kEn_eq, kZp_eq, kZp_T, x_iR1, x_iR2, x_iEn, x_iZp, x_iSq, it_L, it_T, x_slL, q_slS, q_listD, q_listN, q_listNT, q_listDT, q_tupL, q_tupT, PyData.list.injEq, PyData.tuple.injEq, w_frzM, exists_eq, exists_eq', q_gTu2, q_gTu3, Int.reducePow, q_intB, q_mkT0, q_mkT1, q_mkT2, q_mkT3, q_alD0, q_alD1, q_alD2, q_alD3, q_alD4, alloc_N, Int.reduceLT, Int.reduceLE, Nat.reduceLT, Nat.reduceLeDiff, Int.reduceToNat, or_true, true_or, Fl.rt.injEq, Val.d.injEq, Bool.not_true, Bool.not_false, ix_vx0, hc2, q_append hc2 hz]
      rw [hJ]
      refine ⟨some (.d (.int a)), ?_, ex2.setN hj _, ?_⟩
      · rw [sb_next (show (0 : Int) ≤ a by omega)]
        rfl
      · rw [get_set hc2, sb_next (show (0 : Int) ≤ a by omega), List.range_succ]
        simp only [List.map_append, List.append_assoc, List.map_cons, List.map_nil]
    · intro ρ S2 h
      rw [hJ] at h
      obtain ⟨u, rfl, ex2, hc2⟩ := h
      rw [rng_len] at hc2 ⊢
      have hend : sb q.1 r.1 ((way q r).toNat : Int) = r.1 := by
        rw [sb_y (by omega)]
        have : ab (q.1 - r.1) ≤ way q r := by unfold way mx; split <;> omega
        omega
      rw [hend]
      have hadd : ∀ xs : List Val, ∀ ds : List PyData, S2[j]? = some (.lst xs) → xs.length + ds.length ≤ sizeLine → gAdd .N (.c j) (.d (.list ds)) S2 = some (.c S2.length, S2 ++ [.lst (xs ++ ds.map .d)]) := by
        intro xs ds h1 h2
        unfold gAdd alt2 gAddI gI gAddS gAddT gAddL
        simp only [viewS, h1, List.length_map, if_pos h2]
        rfl
      simp only [w_seq, w_nil, w_ret, w_expr, w_asg, w_if, x_par, kPar_eq, Bool.false_xor, Bool.true_xor, w_for, w_c, w_bin, w_aNil, w_aCons, w_cb, w_call, w_tst, w_not, w_and, w_or, w_eif, w_frzE, x_eAnd, x_eOr, bif2_d, w_eNot, w_eNeg, x_chain, w_mt, w_isi, w_lst, w_tup, w_eSl, w_oSo, w_oNo, eVar, wp_some, wp_bnd, wp_map, wpS_some, bnd_some, kSeq_nx, kSeq_rt, kSeq_bk, kSeq_ct, q_addI, q_sub, q_lt, q_gt, q_ge, q_le, q_eqI, q_neI, q_abs, q_max, q_min, q_intI, q_intB, q_lenL, q_lenT, q_ixL, q_ixT, q_gN, q_gsNil, w_gsCons, w_gSub2, q_frzD, List.getElem?_cons_zero, List.getElem?_cons_succ, List.set_cons_zero, List.set_cons_succ, List.length_cons, List.length_nil, if_true, Option.map_some, decide_eq_true_eq, decide_eq_false_iff_not, decide_true, decide_false, Bool.false_eq_true, if_false, forall_const, true_implies, false_implies, and_true, true_and, reduceIte, reduceCtorEq, List.length_map, w_mulI, w_modI, w_divI, w_divmod, w_pow, at_0, at_1, at_2, Option.some.injEq, exists_eq_left', exists_eq_left, false_and, or_false, PyData.int.injEq, wp_none, wpS_none, imp_false, Decidable.not_not, sizeLine_eq, Nat.reduceAdd, not_true_eq_false, not_false_eq_true, wp_ite, w_atD, look_d, List.any_cons, List.any_nil, isT, tyN, String.reduceBEq, Bool.or_false, Bool.false_or, Bool.true_or, Bool.or_true, Bool.and_false, Bool.false_and, Bool.true_and, Bool.and_true, beq_self_eq_true, isNo, q_is, q_isnot, q_eqB, q_neB, q_eqS, q_neS, w_lc, wipeR, gsN, zipD_len, enumD_len, rng_len, Option.isSome_some, Int.zero_add, viewL, viewS, w_forN, w_forC, kFor_nx, kFor_ct, kFor_bk, kFor_rt, x_lcD, x_jSq, kSq, x_jZp, jZ0_T, jZ0_L, kR1_eq, kR2_eq, kEn_eq, kZp_eq, kZp_T, x_iR1, x_iR2, x_iEn, x_iZp, x_iSq, it_L, it_T, x_slL, q_slS, q_listD, q_listN, q_listNT, q_listDT, q_tupL, q_tupT, PyData.list.injEq, PyData.tuple.injEq, w_frzM, exists_eq, exists_eq', q_gTu2, q_gTu3, Int.reducePow, q_intB, q_mkT0, q_mkT1, q_mkT2, q_mkT3, q_alD0, q_alD1, q_alD2, q_alD3, q_alD4, alloc_N, Int.reduceLT, Int.reduceLE, Nat.reduceLT, Nat.reduceLeDiff, Int.reduceToNat, or_true, true_or, Fl.rt.injEq, Val.d.injEq, Bool.not_true, Bool.not_false, rep1 (md := .D) h0 (show w < 1000000 by omega), alloc_D, hadd _ (List.replicate w.toNat (.int r.1)) hc2 (by
        rw [List.length_map, List.length_map, List.length_append, List.length_map, List.length_range, List.length_replicate, sizeLine_eq]
        omega)]
      rw [hI]
      refine ⟨_, _, _, _, _, rfl, ex2.trans (Ex.new _ _), ex2.len, ?_⟩
      rw [get_new, ← hcur, List.take_add_one, hqr, Option.toList_some, List.flatMap_append, List.flatMap_singleton]
      unfold seg
      simp only [List.map_append, List.map_replicate, List.append_assoc]
  · intro ρ S1 h
    rw [hI] at h
    obtain ⟨j, u1, u2, u3, u4, rfl, ex, hj, hc⟩ := h
    rw [List.length_map, List.take_length] at hc
    simp only [w_seq, w_nil, w_ret, w_expr, w_asg, w_if, x_par, kPar_eq, Bool.false_xor, Bool.true_xor, w_for, w_c, w_bin, w_aNil, w_aCons, w_cb, w_call, w_tst, w_not, w_and, w_or, w_eif, w_frzE, x_eAnd, x_eOr, bif2_d, w_eNot, w_eNeg, x_chain, w_mt, w_isi, w_lst, w_tup, w_eSl, w_oSo, w_oNo, eVar, wp_some, wp_bnd, wp_map, wpS_some, bnd_some, kSeq_nx, kSeq_rt, kSeq_bk, kSeq_ct, q_addI, q_sub, q_lt, q_gt, q_ge, q_le, q_eqI, q_neI, q_abs, q_max, q_min, q_intI, q_intB, q_lenL, q_lenT, q_ixL, q_ixT, q_gN, q_gsNil, w_gsCons, w_gSub2, q_frzD, List.getElem?_cons_zero, List.getElem?_cons_succ, List.set_cons_zero, List.set_cons_succ, List.length_cons, List.length_nil, if_true, Option.map_some, decide_eq_true_eq, decide_eq_false_iff_not, decide_true, decide_false, Bool.false_eq_true, if_false, forall_const, true_implies, false_implies, and_true, true_and, reduceIte, reduceCtorEq, List.length_map, w_mulI, w_modI, w_divI, w_divmod, w_pow, at_0, at_1, at_2, Option.some.injEq, exists_eq_left', exists_eq_left, false_and, or_false, PyData.int.injEq, wp_none, wpS_none, imp_false, Decidable.not_not, sizeLine_eq, Nat.reduceAdd, not_true_eq_false, not_false_eq_true, wp_ite, w_atD, look_d, List.any_cons, List.any_nil, isT, tyN, String.reduceBEq, Bool.or_false, Bool.false_or, Bool.true_or, Bool.or_true, Bool.and_false, Bool.false_and, Bool.true_and, Bool.and_true, beq_self_eq_true, isNo, q_is, q_isnot, q_eqB, q_neB, q_eqS, q_neS, w_lc, wipeR, gsN, zipD_len, enumD_len, rng_len, Option.isSome_some, Int.zero_add, viewL, viewS, w_forN, w_forC, kFor_nx, kFor_ct, kFor_bk, kFor_rt, x_lcD, x_jSq, kSq, x_jZp, jZ0_T, jZ0_L, kR1_eq, kR2_eq, kEn_eq, kZp_eq, kZp_T, x_iR1, x_iR2, x_iEn, x_iZp, x_iSq, it_L, it_T, x_slL, q_slS, q_listD, q_listN, q_listNT, q_listDT, q_tupL, q_tupT, PyData.list.injEq, PyData.tuple.injEq, w_frzM, exists_eq, exists_eq', q_gTu2, q_gTu3, Int.reducePow, q_intB, q_mkT0, q_mkT1, q_mkT2, q_mkT3, q_alD0, q_alD1, q_alD2, q_alD3, q_alD4, alloc_N, Int.reduceLT, Int.reduceLE, Nat.reduceLT, Nat.reduceLeDiff, Int.reduceToNat, or_true, true_or, Fl.rt.injEq, Val.d.injEq, Bool.not_true, Bool.not_false, q_frzN hc]
    exact ⟨rfl, ex.setN hj _⟩

end QW

namespace QW
open PySem PySem.Spec PyProof.Rows L2 QL
theorem at_last {α : Type} {xs : List α} {a : α} : atI (xs ++ [a]) (-1) = some a := by
  unfold atI ixN
  rw [if_neg (by decide), if_pos (by rw [List.length_append, List.length_singleton]; omega), List.length_append]
  show (xs ++ [a])[(-1 + ((xs.length + 1 : Nat) : Int)).toNat]? = some a
  rw [show (-1 + ((xs.length + 1 : Nat) : Int)).toNat = xs.length by omega]
  simp
def Tk : Int → List Int → Int → Prop
  | a, [], b => a = b
  | a, x :: r, b => ab (a - x) ≤ 1 ∧ Tk x r b
theorem Tk.app : ∀ {xs ys : List Int} {a b c : Int}, Tk a xs b → Tk b ys c → Tk a (xs ++ ys) c
  | [], ys, a, b, c, h, k => by
    have e : a = b := h
    subst e
    exact k
  | x :: xs, ys, a, b, c, h, k => ⟨h.1, Tk.app h.2 k⟩
theorem Tk.rep (a : Int) : ∀ n : Nat, Tk a (List.replicate n a) a
  | 0 => rfl
  | n + 1 => ⟨by rw [Int.sub_self]; decide, Tk.rep a n⟩
theorem sb_step {x y t : Int} (h : 0 ≤ t) : ab (sb x y t - sb x y (t + 1)) ≤ 1 := by
  unfold sb ab
  repeat' split
  all_goals omega
theorem sb_zero {x y : Int} : sb x y 0 = x := by
  unfold sb
  repeat' split
  all_goals omega
theorem Tk.sb (x y : Int) : ∀ n : Nat, Tk x ((List.range n).map fun (i : Nat) => QW.sb x y (i + 1)) (QW.sb x y n)
  | 0 => sb_zero.symm
  | n + 1 => by
    rw [List.range_succ, List.map_append]
    refine Tk.app (Tk.sb x y n) ⟨sb_step (by omega), ?_⟩
    show QW.sb x y ((n : Int) + 1) = QW.sb x y ((n + 1 : Nat) : Int)
    rfl
theorem Tk.near : ∀ {xs : List Int} {a b : Int}, Tk a xs b → near1 (a :: xs) = true
  | [], _, _, _ => rfl
  | x :: xs, a, b, h => by
    simp only [near1, decide_eq_true h.1, Tk.near h.2, Bool.and_self]
theorem Tk.bad : ∀ {xs : List Int} {a b : Int}, Tk a xs b → near1 (a :: xs ++ [b + 2]) = false
  | [], a, b, h => by
    have e : a = b := h
    subst e
    have : ¬ ab (a - (a + 2)) ≤ 1 := by unfold ab; split <;> omega
    simp only [List.cons_append, List.nil_append, near1, decide_eq_false this, Bool.false_and]
  | x :: xs, a, b, h => by
    have := Tk.bad h.2
    simp only [List.cons_append] at this ⊢
    simp only [near1, this, Bool.and_false]
theorem prs_cons (p q : Int × Int) (r : List (Int × Int)) : prs (p :: q :: r) = (p, q) :: prs (q :: r) := rfl
theorem Tk.seg (w : Nat) (p q : Int × Int) : Tk p.1 (QW.seg w p q) q.1 := by
  unfold QW.seg
  have h := Tk.sb p.1 q.1 (way p q).toNat
  have hend : QW.sb p.1 q.1 ((way p q).toNat : Int) = q.1 := by
    have := way_nn p q
    rw [sb_y (by omega)]
    have : ab (p.1 - q.1) ≤ way p q := by unfold way mx; split <;> omega
    omega
  rw [hend] at h
  exact h.app (Tk.rep _ _)
theorem Tk.segs (w : Nat) : ∀ (ps : List (Int × Int)) (p : Int × Int), ∃ b, Tk p.1 ((prs (p :: ps)).flatMap fun z => QW.seg w z.1 z.2) b
  | [], p => ⟨p.1, rfl⟩
  | q :: r, p => by
    obtain ⟨b, h⟩ := Tk.segs w r q
    rw [prs_cons, List.flatMap_cons]
    exact ⟨b, (Tk.seg w p q).app h⟩
theorem trk_tk (w : Nat) (p : Int × Int) (ps : List (Int × Int)) : ∃ xs b, trk w p ps = p.1 :: xs ∧ Tk p.1 xs b := by
  obtain ⟨b, h⟩ := Tk.segs w ps p
  exact ⟨_, b, rfl, (Tk.rep p.1 w).app h⟩
theorem Tk.last : ∀ {xs : List Int} {a b : Int}, Tk a xs b → ∃ ys, a :: xs = ys ++ [b]
  | [], a, b, h => ⟨[], by rw [show a = b from h]; rfl⟩
  | x :: xs, a, b, h => by
    obtain ⟨ys, e⟩ := Tk.last h.2
    exact ⟨a :: ys, by rw [e]; rfl⟩
theorem segs_len (w : Nat) : ∀ (ps : List (Int × Int)) (p : Int × Int), (((prs (p :: ps)).flatMap fun z => seg w z.1 z.2).length : Int) = (w : Int) * ps.length + ((prs (p :: ps)).map fun z => way z.1 z.2).sum
  | [], p => by simp [prs]
  | q :: r, p => by
    have ih := segs_len w r q
    have wn := way_nn p q
    rw [prs_cons, List.flatMap_cons, List.length_append, List.map_cons, List.sum_cons, Int.natCast_add, ih]
    unfold seg
    rw [List.length_append, List.length_map, List.length_range, List.length_replicate, List.length_cons, Int.natCast_add, Int.natCast_add, Int.mul_add]
    dsimp only
    have e1 : (w : Int) * ((1 : Nat) : Int) = w := Int.mul_one _
    rw [e1]
    omega
theorem trk_len (w : Nat) (p : Int × Int) (ps : List (Int × Int)) : ((trk w p ps).length : Int) = 1 + (w : Int) * (p :: ps).length + ((prs (p :: ps)).map fun z => way z.1 z.2).sum := by
  have := segs_len w ps p
  unfold trk
  rw [List.length_append, Int.natCast_add, this, List.length_replicate, List.length_cons, Int.natCast_add, Int.natCast_add, Int.mul_add]
  show (w : Int) + 1 + _ = 1 + (_ + (w : Int) * 1) + _
  omega
theorem spots_ok {S : Sto} {k N : Nat} (hb : Bx N S k) (hN : N < 100000000000) :
    wp (p_law_spots [.c k] S) fun r S' => ∃ x, r = .d x ∧ Dr k (N + 1500) S S' ∧ ∃ ds, x = .list ds ∧ ds ≠ [] ∧ ds.length ≤ 140 ∧ ∀ d ∈ ds, Pl d := by
  unfold p_law_spots
  refine w_fnD hb ?_
  show wpS (f_law_spots [some (.c k), none, none, none, none] S) _
  unfold f_law_spots
  obtain ⟨M, hM⟩ : ∃ X : Rho → Sto → Prop, X = fun (ρ : Rho) (S' : Sto) => ∃ m : Int, ρ = [some (.c k), some (.d (.int m)), none, none, none] ∧ 0 < m ∧ m < 140 ∧ Dr k (N + 2) S S' := ⟨_, rfl⟩
  refine w_cut M ?_ ?_
  · simp only [w_seq, w_nil, w_ret, w_expr, w_asg, w_if, x_par, kPar_eq, Bool.false_xor, Bool.true_xor, w_for, w_c, w_bin, w_aNil, w_aCons, w_cb, w_call, w_tst, w_not, w_and, w_or, w_eif, w_frzE, x_eAnd, x_eOr, bif2_d, w_eNot, w_eNeg, x_chain, w_mt, w_isi, w_lst, w_tup, w_eSl, w_oSo, w_oNo, eVar, wp_some, wp_bnd, wp_map, wpS_some, bnd_some, kSeq_nx, kSeq_rt, kSeq_bk, kSeq_ct, q_addI, q_sub, q_lt, q_gt, q_ge, q_le, q_eqI, q_neI, q_abs, q_max, q_min, q_intI, q_intB, q_lenL, q_lenT, q_ixL, q_ixT, q_gN, q_gsNil, w_gsCons, w_gSub2, q_frzD, List.getElem?_cons_zero, List.getElem?_cons_succ, List.set_cons_zero, List.set_cons_succ, List.length_cons, List.length_nil, if_true, Option.map_some, decide_eq_true_eq, decide_eq_false_iff_not, decide_true, decide_false, Bool.false_eq_true, if_false, forall_const, true_implies, false_implies, and_true, true_and, reduceIte, reduceCtorEq, List.length_map, w_mulI, w_modI, w_divI, w_divmod, w_pow, at_0, at_1, at_2, Option.some.injEq, exists_eq_left', exists_eq_left, false_and, or_false, PyData.int.injEq, wp_none, wpS_none, imp_false, Decidable.not_not, sizeLine_eq, Nat.reduceAdd, not_true_eq_false, not_false_eq_true, wp_ite, w_atD, look_d, List.any_cons, List.any_nil, isT, tyN, String.reduceBEq, Bool.or_false, Bool.false_or, Bool.true_or, Bool.or_true, Bool.and_false, Bool.false_and, Bool.true_and, Bool.and_true, beq_self_eq_true, isNo, q_is, q_isnot, q_eqB, q_neB, q_eqS, q_neS, w_lc, wipeR, gsN, zipD_len, enumD_len, rng_len, Option.isSome_some, Int.zero_add, viewL, viewS, w_forN, w_forC, kFor_nx, kFor_ct, kFor_bk, kFor_rt, x_lcD, x_jSq, kSq, x_jZp, jZ0_T, jZ0_L, kR1_eq, kR2_eq, kEn_eq, kZp_eq, kZp_T, x_iR1, x_iR2, x_iEn, x_iZp, x_iSq, it_L, it_T, x_slL, q_slS, q_listD, q_listN, q_listNT, q_listDT, q_tupL, q_tupT, PyData.list.injEq, PyData.tuple.injEq, w_frzM, exists_eq, exists_eq', q_gTu2, q_gTu3, Int.reducePow, q_intB, q_mkT0, q_mkT1, q_mkT2, q_mkT3, q_alD0, q_alD1, q_alD2, q_alD3, q_alD4, alloc_N, Int.reduceLT, Int.reduceLE, Nat.reduceLT, Nat.reduceLeDiff, Int.reduceToNat, or_true, true_or, Fl.rt.injEq, Val.d.injEq, Bool.not_true, Bool.not_false]
    refine take_i hb (by omega) (by decide) (by decide) fun i S1 i0 i1 g1 => ?_
    simp only [w_seq, w_nil, w_ret, w_expr, w_asg, w_if, x_par, kPar_eq, Bool.false_xor, Bool.true_xor, w_for, w_c, w_bin, w_aNil, w_aCons, w_cb, w_call, w_tst, w_not, w_and, w_or, w_eif, w_frzE, x_eAnd, x_eOr, bif2_d, w_eNot, w_eNeg, x_chain, w_mt, w_isi, w_lst, w_tup, w_eSl, w_oSo, w_oNo, eVar, wp_some, wp_bnd, wp_map, wpS_some, bnd_some, kSeq_nx, kSeq_rt, kSeq_bk, kSeq_ct, q_addI, q_sub, q_lt, q_gt, q_ge, q_le, q_eqI, q_neI, q_abs, q_max, q_min, q_intI, q_intB, q_lenL, q_lenT, q_ixL, q_ixT, q_gN, q_gsNil, w_gsCons, w_gSub2, q_frzD, List.getElem?_cons_zero, List.getElem?_cons_succ, List.set_cons_zero, List.set_cons_succ, List.length_cons, List.length_nil, if_true, Option.map_some, decide_eq_true_eq, decide_eq_false_iff_not, decide_true, decide_false, Bool.false_eq_true, if_false, forall_const, true_implies, false_implies, and_true, true_and, reduceIte, reduceCtorEq, List.length_map, w_mulI, w_modI, w_divI, w_divmod, w_pow, at_0, at_1, at_2, Option.some.injEq, exists_eq_left', exists_eq_left, false_and, or_false, PyData.int.injEq, wp_none, wpS_none, imp_false, Decidable.not_not, sizeLine_eq, Nat.reduceAdd, not_true_eq_false, not_false_eq_true, wp_ite, w_atD, look_d, List.any_cons, List.any_nil, isT, tyN, String.reduceBEq, Bool.or_false, Bool.false_or, Bool.true_or, Bool.or_true, Bool.and_false, Bool.false_and, Bool.true_and, Bool.and_true, beq_self_eq_true, isNo, q_is, q_isnot, q_eqB, q_neB, q_eqS, q_neS, w_lc, wipeR, gsN, zipD_len, enumD_len, rng_len, Option.isSome_some, Int.zero_add, viewL, viewS, w_forN, w_forC, kFor_nx, kFor_ct, kFor_bk, kFor_rt, x_lcD, x_jSq, kSq, x_jZp, jZ0_T, jZ0_L, kR1_eq, kR2_eq, kEn_eq, kZp_eq, kZp_T, x_iR1, x_iR2, x_iEn, x_iZp, x_iSq, it_L, it_T, x_slL, q_slS, q_listD, q_listN, q_listNT, q_listDT, q_tupL, q_tupT, PyData.list.injEq, PyData.tuple.injEq, w_frzM, exists_eq, exists_eq', q_gTu2, q_gTu3, Int.reducePow, q_intB, q_mkT0, q_mkT1, q_mkT2, q_mkT3, q_alD0, q_alD1, q_alD2, q_alD3, q_alD4, alloc_N, Int.reduceLT, Int.reduceLE, Nat.reduceLT, Nat.reduceLeDiff, Int.reduceToNat, or_true, true_or, Fl.rt.injEq, Val.d.injEq, Bool.not_true, Bool.not_false]
    constructor <;> intro _
    all_goals
      refine take_i g1.box (by omega) (by decide) (by decide) fun m S2 m0 m1 g2 => ?_
      (try simp only [w_seq, w_nil, w_ret, w_expr, w_asg, w_if, x_par, kPar_eq, Bool.false_xor, Bool.true_xor, w_for, w_c, w_bin, w_aNil, w_aCons, w_cb, w_call, w_tst, w_not, w_and, w_or, w_eif, w_frzE, x_eAnd, x_eOr, bif2_d, w_eNot, w_eNeg, x_chain, w_mt, w_isi, w_lst, w_tup, w_eSl, w_oSo, w_oNo, eVar, wp_some, wp_bnd, wp_map, wpS_some, bnd_some, kSeq_nx, kSeq_rt, kSeq_bk, kSeq_ct, q_addI, q_sub, q_lt, q_gt, q_ge, q_le, q_eqI, q_neI, q_abs, q_max, q_min, q_intI, q_intB, q_lenL, q_lenT, q_ixL, q_ixT, q_gN, q_gsNil, w_gsCons, w_gSub2, q_frzD, List.getElem?_cons_zero, List.getElem?_cons_succ, List.set_cons_zero, List.set_cons_succ, List.length_cons, List.length_nil, if_true, Option.map_some, decide_eq_true_eq, decide_eq_false_iff_not, decide_true, decide_false, Bool.false_eq_true, if_false, forall_const, true_implies, false_implies, and_true, true_and, reduceIte, reduceCtorEq, List.length_map, w_mulI, w_modI, w_divI, w_divmod, w_pow, at_0, at_1, at_2, Option.some.injEq, exists_eq_left', exists_eq_left, false_and, or_false, PyData.int.injEq, wp_none, wpS_none, imp_false, Decidable.not_not, sizeLine_eq, Nat.reduceAdd, not_true_eq_false, not_false_eq_true, wp_ite, w_atD, look_d, List.any_cons, List.any_nil, isT, tyN, String.reduceBEq, Bool.or_false, Bool.false_or, Bool.true_or, Bool.or_true, Bool.and_false, Bool.false_and, Bool.true_and, Bool.and_true, beq_self_eq_true, isNo, q_is, q_isnot, q_eqB, q_neB, q_eqS, q_neS, w_lc, wipeR, gsN, zipD_len, enumD_len, rng_len, Option.isSome_some, Int.zero_add, viewL, viewS, w_forN, w_forC, kFor_nx, kFor_ct, kFor_bk, kFor_rt, x_lcD, x_jSq, kSq, x_jZp, jZ0_T, jZ0_L, kR1_eq, kR2_eq, kEn_eq, kZp_eq, kZp_T, x_iR1, x_iR2, x_iEn, x_iZp, x_iSq, it_L, it_T, x_slL, q_slS, q_listD, q_listN, q_listNT, q_listDT, q_tupL, q_tupT, PyData.list.injEq, PyData.tuple.injEq, w_frzM, exists_eq, exists_eq', q_gTu2, q_gTu3, Int.reducePow, q_intB, q_mkT0, q_mkT1, q_mkT2, q_mkT3, q_alD0, q_alD1, q_alD2, q_alD3, q_alD4, alloc_N, Int.reduceLT, Int.reduceLE, Nat.reduceLT, Nat.reduceLeDiff, Int.reduceToNat, or_true, true_or, Fl.rt.injEq, Val.d.injEq, Bool.not_true, Bool.not_false])
      rw [hM]
      exact ⟨_, rfl, by omega, by omega, g1.trans g2⟩
  intro ρ S2 h
  rw [hM] at h
  obtain ⟨m, rfl, m0, m1, g2⟩ := h
  clear hM M
  (try simp only [w_nil, w_ret, w_expr, w_asg, x_par, kPar_eq, Bool.false_xor, Bool.true_xor, w_for, w_c, w_bin, w_aNil, w_aCons, w_cb, w_call, w_tst, w_not, w_and, w_or, w_eif, w_frzE, x_eAnd, x_eOr, bif2_d, w_eNot, w_eNeg, x_chain, w_mt, w_isi, w_lst, w_tup, w_eSl, w_oSo, w_oNo, eVar, wp_some, wp_bnd, wp_map, wpS_some, bnd_some, kSeq_nx, kSeq_rt, kSeq_bk, kSeq_ct, q_addI, q_sub, q_lt, q_gt, q_ge, q_le, q_eqI, q_neI, q_abs, q_max, q_min, q_intI, q_intB, q_lenL, q_lenT, q_ixL, q_ixT, q_gN, q_gsNil, w_gsCons, w_gSub2, q_frzD, List.getElem?_cons_zero, List.getElem?_cons_succ, List.set_cons_zero, List.set_cons_succ, List.length_cons, List.length_nil, if_true, Option.map_some, decide_eq_true_eq, decide_eq_false_iff_not, decide_true, decide_false, Bool.false_eq_true, if_false, forall_const, true_implies, false_implies, and_true, true_and, reduceIte, reduceCtorEq, List.length_map, w_mulI, w_modI, w_divI, w_divmod, w_pow, at_0, at_1, at_2, Option.some.injEq, exists_eq_left', exists_eq_left, false_and, or_false, PyData.int.injEq, wp_none, wpS_none, imp_false, Decidable.not_not, sizeLine_eq, Nat.reduceAdd, not_true_eq_false, not_false_eq_true, wp_ite, w_atD, look_d, List.any_cons, List.any_nil, isT, tyN, String.reduceBEq, Bool.or_false, Bool.false_or, Bool.true_or, Bool.or_true, Bool.and_false, Bool.false_and, Bool.true_and, Bool.and_true, beq_self_eq_true, isNo, q_is, q_isnot, q_eqB, q_neB, q_eqS, q_neS, w_lc, wipeR, gsN, zipD_len, enumD_len, rng_len, Option.isSome_some, Int.zero_add, viewL, viewS, w_forN, w_forC, kFor_nx, kFor_ct, kFor_bk, kFor_rt, x_lcD, x_jSq, kSq, x_jZp, jZ0_T, jZ0_L, kR1_eq, kR2_eq, kEn_eq, kZp_eq, kZp_T, x_iR1, x_iR2, x_iEn, x_iZp, x_iSq, it_L, it_T, x_slL, q_slS, q_listD, q_listN, q_listNT, q_listDT, q_tupL, q_tupT, PyData.list.injEq, PyData.tuple.injEq, w_frzM, exists_eq, exists_eq', q_gTu2, q_gTu3, Int.reducePow, q_intB, q_mkT0, q_mkT1, q_mkT2, q_mkT3, q_alD0, q_alD1, q_alD2, q_alD3, q_alD4, alloc_N, Int.reduceLT, Int.reduceLE, Nat.reduceLT, Nat.reduceLeDiff, Int.reduceToNat, or_true, true_or, Fl.rt.injEq, Val.d.injEq, Bool.not_true, Bool.not_false]); rw [w_seq]; (try simp only [w_nil, w_ret, w_expr, w_asg, x_par, kPar_eq, Bool.false_xor, Bool.true_xor, w_for, w_c, w_bin, w_aNil, w_aCons, w_cb, w_call, w_tst, w_not, w_and, w_or, w_eif, w_frzE, x_eAnd, x_eOr, bif2_d, w_eNot, w_eNeg, x_chain, w_mt, w_isi, w_lst, w_tup, w_eSl, w_oSo, w_oNo, eVar, wp_some, wp_bnd, wp_map, wpS_some, bnd_some, kSeq_nx, kSeq_rt, kSeq_bk, kSeq_ct, q_addI, q_sub, q_lt, q_gt, q_ge, q_le, q_eqI, q_neI, q_abs, q_max, q_min, q_intI, q_intB, q_lenL, q_lenT, q_ixL, q_ixT, q_gN, q_gsNil, w_gsCons, w_gSub2, q_frzD, List.getElem?_cons_zero, List.getElem?_cons_succ, List.set_cons_zero, List.set_cons_succ, List.length_cons, List.length_nil, if_true, Option.map_some, decide_eq_true_eq, decide_eq_false_iff_not, decide_true, decide_false, Bool.false_eq_true, if_false, forall_const, true_implies, false_implies, and_true, true_and, reduceIte, reduceCtorEq, List.length_map, w_mulI, w_modI, w_divI, w_divmod, w_pow, at_0, at_1, at_2, Option.some.injEq, exists_eq_left', exists_eq_left, false_and, or_false, PyData.int.injEq, wp_none, wpS_none, imp_false, Decidable.not_not, sizeLine_eq, Nat.reduceAdd, not_true_eq_false, not_false_eq_true, wp_ite, w_atD, look_d, List.any_cons, List.any_nil, isT, tyN, String.reduceBEq, Bool.or_false, Bool.false_or, Bool.true_or, Bool.or_true, Bool.and_false, Bool.false_and, Bool.true_and, Bool.and_true, beq_self_eq_true, isNo, q_is, q_isnot, q_eqB, q_neB, q_eqS, q_neS, w_lc, wipeR, gsN, zipD_len, enumD_len, rng_len, Option.isSome_some, Int.zero_add, viewL, viewS, w_forN, w_forC, kFor_nx, kFor_ct, kFor_bk, kFor_rt, x_lcD, x_jSq, kSq, x_jZp, jZ0_T, jZ0_L, kR1_eq, kR2_eq, kEn_eq, kZp_eq, kZp_T, x_iR1, x_iR2, x_iEn, x_iZp, x_iSq, it_L, it_T, x_slL, q_slS, q_listD, q_listN, q_listNT, q_listDT, q_tupL, q_tupT, PyData.list.injEq, PyData.tuple.injEq, w_frzM, exists_eq, exists_eq', q_gTu2, q_gTu3, Int.reducePow, q_intB, q_mkT0, q_mkT1, q_mkT2, q_mkT3, q_alD0, q_alD1, q_alD2, q_alD3, q_alD4, alloc_N, Int.reduceLT, Int.reduceLE, Nat.reduceLT, Nat.reduceLeDiff, Int.reduceToNat, or_true, true_or, Fl.rt.injEq, Val.d.injEq, Bool.not_true, Bool.not_false])
  refine place_i g2.box (by omega) (Tm.lst (n := 0) (w := 0) (by simp) (by decide) (Nat.le_refl _)) (by decide) fun l0 S3 hl0 g3 => ?_
  simp only [w_seq, w_nil, w_ret, w_expr, w_asg, w_if, x_par, kPar_eq, Bool.false_xor, Bool.true_xor, w_for, w_c, w_bin, w_aNil, w_aCons, w_cb, w_call, w_tst, w_not, w_and, w_or, w_eif, w_frzE, x_eAnd, x_eOr, bif2_d, w_eNot, w_eNeg, x_chain, w_mt, w_isi, w_lst, w_tup, w_eSl, w_oSo, w_oNo, eVar, wp_some, wp_bnd, wp_map, wpS_some, bnd_some, kSeq_nx, kSeq_rt, kSeq_bk, kSeq_ct, q_addI, q_sub, q_lt, q_gt, q_ge, q_le, q_eqI, q_neI, q_abs, q_max, q_min, q_intI, q_intB, q_lenL, q_lenT, q_ixL, q_ixT, q_gN, q_gsNil, w_gsCons, w_gSub2, q_frzD, List.getElem?_cons_zero, List.getElem?_cons_succ, List.set_cons_zero, List.set_cons_succ, List.length_cons, List.length_nil, if_true, Option.map_some, decide_eq_true_eq, decide_eq_false_iff_not, decide_true, decide_false, Bool.false_eq_true, if_false, forall_const, true_implies, false_implies, and_true, true_and, reduceIte, reduceCtorEq, List.length_map, w_mulI, w_modI, w_divI, w_divmod, w_pow, at_0, at_1, at_2, Option.some.injEq, exists_eq_left', exists_eq_left, false_and, or_false, PyData.int.injEq, wp_none, wpS_none, imp_false, Decidable.not_not, sizeLine_eq, Nat.reduceAdd, not_true_eq_false, not_false_eq_true, wp_ite, w_atD, look_d, List.any_cons, List.any_nil, isT, tyN, String.reduceBEq, Bool.or_false, Bool.false_or, Bool.true_or, Bool.or_true, Bool.and_false, Bool.false_and, Bool.true_and, Bool.and_true, beq_self_eq_true, isNo, q_is, q_isnot, q_eqB, q_neB, q_eqS, q_neS, w_lc, wipeR, gsN, zipD_len, enumD_len, rng_len, Option.isSome_some, Int.zero_add, viewL, viewS, w_forN, w_forC, kFor_nx, kFor_ct, kFor_bk, kFor_rt, x_lcD, x_jSq, kSq, x_jZp, jZ0_T, jZ0_L, kR1_eq, kR2_eq, kEn_eq, kZp_eq, kZp_T, x_iR1, x_iR2, x_iEn, x_iZp, x_iSq, it_L, it_T, x_slL, q_slS, q_listD, q_listN, q_listNT, q_listDT, q_tupL, q_tupT, PyData.list.injEq, PyData.tuple.injEq, w_frzM, exists_eq, exists_eq', q_gTu2, q_gTu3, Int.reducePow, q_intB, q_mkT0, q_mkT1, q_mkT2, q_mkT3, q_alD0, q_alD1, q_alD2, q_alD3, q_alD4, alloc_N, Int.reduceLT, Int.reduceLE, Nat.reduceLT, Nat.reduceLeDiff, Int.reduceToNat, or_true, true_or, Fl.rt.injEq, Val.d.injEq, Bool.not_true, Bool.not_false]
  have hjk : S3.length ≠ k := by have := g3.box.lt; omega
  have hj : S.length ≤ S3.length := by rw [g3.len, g2.len]; exact Nat.le_refl _
  have gg : Gr k (N + 2 + 3) S (S3 ++ [.lst [.d l0]]) := (g2.trans g3).gr.ex (Ex.new _ _)
  refine ⟨by omega, ?_⟩
  obtain ⟨I, hI⟩ : ∃ X : Nat → Rho → Sto → Prop, X = fun (i : Nat) (ρ : Rho) (S' : Sto) => ∃ (ds : List PyData) (l : PyData) (u3 u4 : Option Val), ρ = [some (.c k), some (.d (.int m)), some (.c S3.length), u3, u4] ∧ Gr k (N + 5 + i * 10) S S' ∧ S'[S3.length]? = some (.lst ((ds ++ [l]).map Val.d)) ∧ ds.length = i ∧ ∀ d ∈ ds ++ [l], Pl d := ⟨_, rfl⟩
  refine w_loop I (by rw [hI]; exact ⟨[], l0, _, _, rfl, gg.mono (by omega), get_new _ _, rfl, by intro d hd; rw [List.mem_singleton.mp hd]; exact hl0⟩) ?_ ?_
  · intro i d ρ S4 hd h
    rw [hI] at h
    obtain ⟨ds, l, u3, u4, rfl, g4, hc4, hl, hp⟩ := h
    obtain ⟨hi, rfl⟩ := rng_get hd
    have hi : i < 140 := by omega
    (try simp only [w_nil, w_ret, w_expr, w_asg, x_par, kPar_eq, Bool.false_xor, Bool.true_xor, w_for, w_c, w_bin, w_aNil, w_aCons, w_cb, w_call, w_tst, w_not, w_and, w_or, w_eif, w_frzE, x_eAnd, x_eOr, bif2_d, w_eNot, w_eNeg, x_chain, w_mt, w_isi, w_lst, w_tup, w_eSl, w_oSo, w_oNo, eVar, wp_some, wp_bnd, wp_map, wpS_some, bnd_some, kSeq_nx, kSeq_rt, kSeq_bk, kSeq_ct, q_addI, q_sub, q_lt, q_gt, q_ge, q_le, q_eqI, q_neI, q_abs, q_max, q_min, q_intI, q_intB, q_lenL, q_lenT, q_ixL, q_ixT, q_gN, q_gsNil, w_gsCons, w_gSub2, q_frzD, List.getElem?_cons_zero, List.getElem?_cons_succ, List.set_cons_zero, List.set_cons_succ, List.length_cons, List.length_nil, if_true, Option.map_some, decide_eq_true_eq, decide_eq_false_iff_not, decide_true, decide_false, Bool.false_eq_true, if_false, forall_const, true_implies, false_implies, and_true, true_and, reduceIte, reduceCtorEq, List.length_map, w_mulI, w_modI, w_divI, w_divmod, w_pow, at_0, at_1, at_2, Option.some.injEq, exists_eq_left', exists_eq_left, false_and, or_false, PyData.int.injEq, wp_none, wpS_none, imp_false, Decidable.not_not, sizeLine_eq, Nat.reduceAdd, not_true_eq_false, not_false_eq_true, wp_ite, w_atD, look_d, List.any_cons, List.any_nil, isT, tyN, String.reduceBEq, Bool.or_false, Bool.false_or, Bool.true_or, Bool.or_true, Bool.and_false, Bool.false_and, Bool.true_and, Bool.and_true, beq_self_eq_true, isNo, q_is, q_isnot, q_eqB, q_neB, q_eqS, q_neS, w_lc, wipeR, gsN, zipD_len, enumD_len, rng_len, Option.isSome_some, Int.zero_add, viewL, viewS, w_forN, w_forC, kFor_nx, kFor_ct, kFor_bk, kFor_rt, x_lcD, x_jSq, kSq, x_jZp, jZ0_T, jZ0_L, kR1_eq, kR2_eq, kEn_eq, kZp_eq, kZp_T, x_iR1, x_iR2, x_iEn, x_iZp, x_iSq, it_L, it_T, x_slL, q_slS, q_listD, q_listN, q_listNT, q_listDT, q_tupL, q_tupT, PyData.list.injEq, PyData.tuple.injEq, w_frzM, exists_eq, exists_eq', q_gTu2, q_gTu3, Int.reducePow, q_intB, q_mkT0, q_mkT1, q_mkT2, q_mkT3, q_alD0, q_alD1, q_alD2, q_alD3, q_alD4, alloc_N, Int.reduceLT, Int.reduceLE, Nat.reduceLT, Nat.reduceLeDiff, Int.reduceToNat, or_true, true_or, Fl.rt.injEq, Val.d.injEq, Bool.not_true, Bool.not_false]); rw [w_seq]; (try simp only [w_nil, w_ret, w_expr, w_asg, x_par, kPar_eq, Bool.false_xor, Bool.true_xor, w_for, w_c, w_bin, w_aNil, w_aCons, w_cb, w_call, w_tst, w_not, w_and, w_or, w_eif, w_frzE, x_eAnd, x_eOr, bif2_d, w_eNot, w_eNeg, x_chain, w_mt, w_isi, w_lst, w_tup, w_eSl, w_oSo, w_oNo, eVar, wp_some, wp_bnd, wp_map, wpS_some, bnd_some, kSeq_nx, kSeq_rt, kSeq_bk, kSeq_ct, q_addI, q_sub, q_lt, q_gt, q_ge, q_le, q_eqI, q_neI, q_abs, q_max, q_min, q_intI, q_intB, q_lenL, q_lenT, q_ixL, q_ixT, q_gN, q_gsNil, w_gsCons, w_gSub2, q_frzD, List.getElem?_cons_zero, List.getElem?_cons_succ, List.set_cons_zero, List.set_cons_succ, List.length_cons, List.length_nil, if_true, Option.map_some, decide_eq_true_eq, decide_eq_false_iff_not, decide_true, decide_false, Bool.false_eq_true, if_false, forall_const, true_implies, false_implies, and_true, true_and, reduceIte, reduceCtorEq, List.length_map, w_mulI, w_modI, w_divI, w_divmod, w_pow, at_0, at_1, at_2, Option.some.injEq, exists_eq_left', exists_eq_left, false_and, or_false, PyData.int.injEq, wp_none, wpS_none, imp_false, Decidable.not_not, sizeLine_eq, Nat.reduceAdd, not_true_eq_false, not_false_eq_true, wp_ite, w_atD, look_d, List.any_cons, List.any_nil, isT, tyN, String.reduceBEq, Bool.or_false, Bool.false_or, Bool.true_or, Bool.or_true, Bool.and_false, Bool.false_and, Bool.true_and, Bool.and_true, beq_self_eq_true, isNo, q_is, q_isnot, q_eqB, q_neB, q_eqS, q_neS, w_lc, wipeR, gsN, zipD_len, enumD_len, rng_len, Option.isSome_some, Int.zero_add, viewL, viewS, w_forN, w_forC, kFor_nx, kFor_ct, kFor_bk, kFor_rt, x_lcD, x_jSq, kSq, x_jZp, jZ0_T, jZ0_L, kR1_eq, kR2_eq, kEn_eq, kZp_eq, kZp_T, x_iR1, x_iR2, x_iEn, x_iZp, x_iSq, it_L, it_T, x_slL, q_slS, q_listD, q_listN, q_listNT, q_listDT, q_tupL, q_tupT, PyData.list.injEq, PyData.tuple.injEq, w_frzM, exists_eq, exists_eq', q_gTu2, q_gTu3, Int.reducePow, q_intB, q_mkT0, q_mkT1, q_mkT2, q_mkT3, q_alD0, q_alD1, q_alD2, q_alD3, q_alD4, alloc_N, Int.reduceLT, Int.reduceLE, Nat.reduceLT, Nat.reduceLeDiff, Int.reduceToNat, or_true, true_or, Fl.rt.injEq, Val.d.injEq, Bool.not_true, Bool.not_false])
    refine take_i g4.box (by omega) (by decide) (by decide) fun x S5 x0 x1 g5 => ?_
    refine take_i g5.box (by omega) (by decide) (by decide) fun y S6 y0 y1 g6 => ?_
    have hc6 := g6.get hjk (g5.get hjk hc4)
    have hz : ((ds ++ [l]).map Val.d).length < sizeLine := by rw [List.length_map, List.length_append, List.length_singleton, sizeLine_eq]; omega
    have hla : atI (ds ++ [l]) (-1) = some l := at_last
    have fin : ∀ (q : PyData) (M : Nat) S7, Pl q → M ≤ 10 → Gr k (N + 5 + i * 10 + M) S S7 → S7[S3.length]? = some (.lst ((ds ++ [l]).map Val.d)) → ∀ u4, I (i + 1) [some (.c k), some (.d (.int m)), some (.c S3.length), some (.d (.int i)), u4] (S7.set S3.length (.lst ((ds ++ [l]).map .d ++ [.d q]))) := by
      intro q M S7 hq hM g7 hc7 u4
      rw [hI]
      refine ⟨ds ++ [l], q, _, _, rfl, (g7.setN hj hb.lt _).mono (by omega), ?_, by simp [hl], ?_⟩
      · rw [get_set hc7, List.map_append (l₂ := [q])]
        rfl
      · intro d hd
        rcases List.mem_append.mp hd with z | z
        · exact hp d z
        · rw [List.mem_singleton.mp z]
          exact hq
    have hpl := hp l (by simp)
    have hxy : Pl (.tuple [.int x, .int y]) := ⟨x, y, rfl, x0, by omega, y0, by omega⟩
    simp only [w_seq, w_nil, w_ret, w_expr, w_asg, w_if, x_par, kPar_eq, Bool.false_xor, Bool.true_xor, w_for, w_c, w_bin, w_aNil, w_aCons, w_cb, w_call, w_tst, w_not, w_and, w_or, w_eif, w_frzE, x_eAnd, x_eOr, bif2_d, w_eNot, w_eNeg, x_chain, w_mt, w_isi, w_lst, w_tup, w_eSl, w_oSo, w_oNo, eVar, wp_some, wp_bnd, wp_map, wpS_some, bnd_some, kSeq_nx, kSeq_rt, kSeq_bk, kSeq_ct, q_addI, q_sub, q_lt, q_gt, q_ge, q_le, q_eqI, q_neI, q_abs, q_max, q_min, q_intI, q_intB, q_lenL, q_lenT, q_ixL, q_ixT, q_gN, q_gsNil, w_gsCons, w_gSub2, q_frzD, List.getElem?_cons_zero, List.getElem?_cons_succ, List.set_cons_zero, List.set_cons_succ, List.length_cons, List.length_nil, if_true, Option.map_some, decide_eq_true_eq, decide_eq_false_iff_not, decide_true, decide_false, Bool.false_eq_true, if_false, forall_const, true_implies, false_implies, and_true, true_and, reduceIte, reduceCtorEq, List.length_map, w_mulI, w_modI, w_divI, w_divmod, w_pow, at_0, at_1, at_2, Option.some.injEq, exists_eq_left', exists_eq_left, false_and, or_false, PyData.int.injEq, wp_none, wpS_none, imp_false, Decidable.not_not, sizeLine_eq, Nat.reduceAdd, not_true_eq_false, not_false_eq_true, wp_ite, w_atD, look_d, List.any_cons, List.any_nil, isT, tyN, String.reduceBEq, Bool.or_false, Bool.false_or, Bool.true_or, Bool.or_true, Bool.and_false, Bool.false_and, Bool.true_and, Bool.and_true, beq_self_eq_true, isNo, q_is, q_isnot, q_eqB, q_neB, q_eqS, q_neS, w_lc, wipeR, gsN, zipD_len, enumD_len, rng_len, Option.isSome_some, Int.zero_add, viewL, viewS, w_forN, w_forC, kFor_nx, kFor_ct, kFor_bk, kFor_rt, x_lcD, x_jSq, kSq, x_jZp, jZ0_T, jZ0_L, kR1_eq, kR2_eq, kEn_eq, kZp_eq, kZp_T, x_iR1, x_iR2, x_iEn, x_iZp, x_iSq, it_L, it_T, x_slL, q_slS, q_listD, q_listN, q_listNT, q_listDT, q_tupL, q_tupT, PyData.list.injEq, PyData.tuple.injEq, w_frzM, exists_eq, exists_eq', q_gTu2, q_gTu3, Int.reducePow, q_intB, q_mkT0, q_mkT1, q_mkT2, q_mkT3, q_alD0, q_alD1, q_alD2, q_alD3, q_alD4, alloc_N, Int.reduceLT, Int.reduceLE, Nat.reduceLT, Nat.reduceLeDiff, Int.reduceToNat, or_true, true_or, Fl.rt.injEq, Val.d.injEq, Bool.not_true, Bool.not_false, hc6, q_ixC hc6, hla]
    refine ⟨fun _ => ?_, fun _ => ?_⟩
    · refine place_i g6.box (by omega) (Tm.lst (n := 0) (w := 0) (by simp) (by decide) (Nat.le_refl _)) (by decide) fun z S7 hz7 g7 => ?_
      (try simp only [w_seq, w_nil, w_ret, w_expr, w_asg, w_if, x_par, kPar_eq, Bool.false_xor, Bool.true_xor, w_for, w_c, w_bin, w_aNil, w_aCons, w_cb, w_call, w_tst, w_not, w_and, w_or, w_eif, w_frzE, x_eAnd, x_eOr, bif2_d, w_eNot, w_eNeg, x_chain, w_mt, w_isi, w_lst, w_tup, w_eSl, w_oSo, w_oNo, eVar, wp_some, wp_bnd, wp_map, wpS_some, bnd_some, kSeq_nx, kSeq_rt, kSeq_bk, kSeq_ct, q_addI, q_sub, q_lt, q_gt, q_ge, q_le, q_eqI, q_neI, q_abs, q_max, q_min, q_intI, q_intB, q_lenL, q_lenT, q_ixL, q_ixT, q_gN, q_gsNil, w_gsCons, w_gSub2, q_frzD, List.getElem?_cons_zero, List.getElem?_cons_succ, List.set_cons_zero, List.set_cons_succ, List.length_cons, List.length_nil, if_true, Option.map_some, decide_eq_true_eq, decide_eq_false_iff_not, decide_true, decide_false, Bool.false_eq_true, if_false, forall_const, true_implies, false_implies, and_true, true_and, reduceIte, reduceCtorEq, List.length_map, w_mulI, w_modI, w_divI, w_divmod, w_pow, at_0, at_1, at_2, Option.some.injEq, exists_eq_left', exists_eq_left, false_and, or_false, PyData.int.injEq, wp_none, wpS_none, imp_false, Decidable.not_not, sizeLine_eq, Nat.reduceAdd, not_true_eq_false, not_false_eq_true, wp_ite, w_atD, look_d, List.any_cons, List.any_nil, isT, tyN, String.reduceBEq, Bool.or_false, Bool.false_or, Bool.true_or, Bool.or_true, Bool.and_false, Bool.false_and, Bool.true_and, Bool.and_true, beq_self_eq_true, isNo, q_is, q_isnot, q_eqB, q_neB, q_eqS, q_neS, w_lc, wipeR, gsN, zipD_len, enumD_len, rng_len, Option.isSome_some, Int.zero_add, viewL, viewS, w_forN, w_forC, kFor_nx, kFor_ct, kFor_bk, kFor_rt, x_lcD, x_jSq, kSq, x_jZp, jZ0_T, jZ0_L, kR1_eq, kR2_eq, kEn_eq, kZp_eq, kZp_T, x_iR1, x_iR2, x_iEn, x_iZp, x_iSq, it_L, it_T, x_slL, q_slS, q_listD, q_listN, q_listNT, q_listDT, q_tupL, q_tupT, PyData.list.injEq, PyData.tuple.injEq, w_frzM, exists_eq, exists_eq', q_gTu2, q_gTu3, Int.reducePow, q_intB, q_mkT0, q_mkT1, q_mkT2, q_mkT3, q_alD0, q_alD1, q_alD2, q_alD3, q_alD4, alloc_N, Int.reduceLT, Int.reduceLE, Nat.reduceLT, Nat.reduceLeDiff, Int.reduceToNat, or_true, true_or, Fl.rt.injEq, Val.d.injEq, Bool.not_true, Bool.not_false])
      refine take_i g7.box (by omega) (by decide) (by decide) fun t S8 t0 t1 g8 => ?_
      have hc8 := g8.get hjk (g7.get hjk hc6)
      obtain ⟨q, e1, hq⟩ := at_all (xs := [l, .tuple [.int x, .int y], z]) (P := Pl) t0 (by simpa using t1) (by
        intro d hd
        simp only [List.mem_cons, List.not_mem_nil, or_false] at hd
        rcases hd with rfl | rfl | rfl
        · exact hpl
        · exact hxy
        · exact hz7)
      (try simp only [w_seq, w_nil, w_ret, w_expr, w_asg, w_if, x_par, kPar_eq, Bool.false_xor, Bool.true_xor, w_for, w_c, w_bin, w_aNil, w_aCons, w_cb, w_call, w_tst, w_not, w_and, w_or, w_eif, w_frzE, x_eAnd, x_eOr, bif2_d, w_eNot, w_eNeg, x_chain, w_mt, w_isi, w_lst, w_tup, w_eSl, w_oSo, w_oNo, eVar, wp_some, wp_bnd, wp_map, wpS_some, bnd_some, kSeq_nx, kSeq_rt, kSeq_bk, kSeq_ct, q_addI, q_sub, q_lt, q_gt, q_ge, q_le, q_eqI, q_neI, q_abs, q_max, q_min, q_intI, q_intB, q_lenL, q_lenT, q_ixL, q_ixT, q_gN, q_gsNil, w_gsCons, w_gSub2, q_frzD, List.getElem?_cons_zero, List.getElem?_cons_succ, List.set_cons_zero, List.set_cons_succ, List.length_cons, List.length_nil, if_true, Option.map_some, decide_eq_true_eq, decide_eq_false_iff_not, decide_true, decide_false, Bool.false_eq_true, if_false, forall_const, true_implies, false_implies, and_true, true_and, reduceIte, reduceCtorEq, List.length_map, w_mulI, w_modI, w_divI, w_divmod, w_pow, at_0, at_1, at_2, Option.some.injEq, exists_eq_left', exists_eq_left, false_and, or_false, PyData.int.injEq, wp_none, wpS_none, imp_false, Decidable.not_not, sizeLine_eq, Nat.reduceAdd, not_true_eq_false, not_false_eq_true, wp_ite, w_atD, look_d, List.any_cons, List.any_nil, isT, tyN, String.reduceBEq, Bool.or_false, Bool.false_or, Bool.true_or, Bool.or_true, Bool.and_false, Bool.false_and, Bool.true_and, Bool.and_true, beq_self_eq_true, isNo, q_is, q_isnot, q_eqB, q_neB, q_eqS, q_neS, w_lc, wipeR, gsN, zipD_len, enumD_len, rng_len, Option.isSome_some, Int.zero_add, viewL, viewS, w_forN, w_forC, kFor_nx, kFor_ct, kFor_bk, kFor_rt, x_lcD, x_jSq, kSq, x_jZp, jZ0_T, jZ0_L, kR1_eq, kR2_eq, kEn_eq, kZp_eq, kZp_T, x_iR1, x_iR2, x_iEn, x_iZp, x_iSq, it_L, it_T, x_slL, q_slS, q_listD, q_listN, q_listNT, q_listDT, q_tupL, q_tupT, PyData.list.injEq, PyData.tuple.injEq, w_frzM, exists_eq, exists_eq', q_gTu2, q_gTu3, Int.reducePow, q_intB, q_mkT0, q_mkT1, q_mkT2, q_mkT3, q_alD0, q_alD1, q_alD2, q_alD3, q_alD4, alloc_N, Int.reduceLT, Int.reduceLE, Nat.reduceLT, Nat.reduceLeDiff, Int.reduceToNat, or_true, true_or, Fl.rt.injEq, Val.d.injEq, Bool.not_true, Bool.not_false])
      refine ⟨q, e1, ?_⟩
      (try simp only [w_seq, w_nil, w_ret, w_expr, w_asg, w_if, x_par, kPar_eq, Bool.false_xor, Bool.true_xor, w_for, w_c, w_bin, w_aNil, w_aCons, w_cb, w_call, w_tst, w_not, w_and, w_or, w_eif, w_frzE, x_eAnd, x_eOr, bif2_d, w_eNot, w_eNeg, x_chain, w_mt, w_isi, w_lst, w_tup, w_eSl, w_oSo, w_oNo, eVar, wp_some, wp_bnd, wp_map, wpS_some, bnd_some, kSeq_nx, kSeq_rt, kSeq_bk, kSeq_ct, q_addI, q_sub, q_lt, q_gt, q_ge, q_le, q_eqI, q_neI, q_abs, q_max, q_min, q_intI, q_intB, q_lenL, q_lenT, q_ixL, q_ixT, q_gN, q_gsNil, w_gsCons, w_gSub2, q_frzD, List.getElem?_cons_zero, List.getElem?_cons_succ, List.set_cons_zero, List.set_cons_succ, List.length_cons, List.length_nil, if_true, Option.map_some, decide_eq_true_eq, decide_eq_false_iff_not, decide_true, decide_false, Bool.false_eq_true, if_false, forall_const, true_implies, false_implies, and_true, true_and, reduceIte, reduceCtorEq, List.length_map, w_mulI, w_modI, w_divI, w_divmod, w_pow, at_0, at_1, at_2, Option.some.injEq, exists_eq_left', exists_eq_left, false_and, or_false, PyData.int.injEq, wp_none, wpS_none, imp_false, Decidable.not_not, sizeLine_eq, Nat.reduceAdd, not_true_eq_false, not_false_eq_true, wp_ite, w_atD, look_d, List.any_cons, List.any_nil, isT, tyN, String.reduceBEq, Bool.or_false, Bool.false_or, Bool.true_or, Bool.or_true, Bool.and_false, Bool.false_and, Bool.true_and, Bool.and_true, beq_self_eq_true, isNo, q_is, q_isnot, q_eqB, q_neB, q_eqS, q_neS, w_lc, wipeR, gsN, zipD_len, enumD_len, rng_len, Option.isSome_some, Int.zero_add, viewL, viewS, w_forN, w_forC, kFor_nx, kFor_ct, kFor_bk, kFor_rt, x_lcD, x_jSq, kSq, x_jZp, jZ0_T, jZ0_L, kR1_eq, kR2_eq, kEn_eq, kZp_eq, kZp_T, x_iR1, x_iR2, x_iEn, x_iZp, x_iSq, it_L, it_T, x_slL, q_slS, q_listD, q_listN, q_listNT, q_listDT, q_tupL, q_tupT, PyData.list.injEq, PyData.tuple.injEq, w_frzM, exists_eq, exists_eq', q_gTu2, q_gTu3, Int.reducePow, q_intB, q_mkT0, q_mkT1, q_mkT2, q_mkT3, q_alD0, q_alD1, q_alD2, q_alD3, q_alD4, alloc_N, Int.reduceLT, Int.reduceLE, Nat.reduceLT, Nat.reduceLeDiff, Int.reduceToNat, or_true, true_or, Fl.rt.injEq, Val.d.injEq, Bool.not_true, Bool.not_false, q_append hc8 hz])
      exact fin q 10 S8 hq (by decide) ((g4.dr (((g5.trans g6).trans g7).trans g8)).mono (by omega)) hc8 _
    · refine take_i g6.box (by omega) (by decide) (by decide) fun t S8 t0 t1 g8 => ?_
      have hc8 := g8.get hjk hc6
      obtain ⟨q, e1, hq⟩ := at_all (xs := [l, .tuple [.int x, .int y], .tuple [.int x, .int y]]) (P := Pl) t0 (by simpa using t1) (by
        intro d hd
        simp only [List.mem_cons, List.not_mem_nil, or_false] at hd
        rcases hd with rfl | rfl | rfl
        · exact hpl
        · exact hxy
        · exact hxy)
      (try simp only [w_seq, w_nil, w_ret, w_expr, w_asg, w_if, x_par, kPar_eq, Bool.false_xor, Bool.true_xor, w_for, w_c, w_bin, w_aNil, w_aCons, w_cb, w_call, w_tst, w_not, w_and, w_or, w_eif, w_frzE, x_eAnd, x_eOr, bif2_d, w_eNot, w_eNeg, x_chain, w_mt, w_isi, w_lst, w_tup, w_eSl, w_oSo, w_oNo, eVar, wp_some, wp_bnd, wp_map, wpS_some, bnd_some, kSeq_nx, kSeq_rt, kSeq_bk, kSeq_ct, q_addI, q_sub, q_lt, q_gt, q_ge, q_le, q_eqI, q_neI, q_abs, q_max, q_min, q_intI, q_intB, q_lenL, q_lenT, q_ixL, q_ixT, q_gN, q_gsNil, w_gsCons, w_gSub2, q_frzD, List.getElem?_cons_zero, List.getElem?_cons_succ, List.set_cons_zero, List.set_cons_succ, List.length_cons, List.length_nil, if_true, Option.map_some, decide_eq_true_eq, decide_eq_false_iff_not, decide_true, decide_false, Bool.false_eq_true, if_false, forall_const, true_implies, false_implies, and_true, true_and, reduceIte, reduceCtorEq, List.length_map, w_mulI, w_modI, w_divI, w_divmod, w_pow, at_0, at_1, at_2, Option.some.injEq, exists_eq_left', exists_eq_left, false_and, or_false, PyData.int.injEq, wp_none, wpS_none, imp_false, Decidable.not_not, sizeLine_eq, Nat.reduceAdd, not_true_eq_false, not_false_eq_true, wp_ite, w_atD, look_d, List.any_cons, List.any_nil, isT, tyN, String.reduceBEq, Bool.or_false, Bool.false_or, Bool.true_or, Bool.or_true, Bool.and_false, Bool.false_and, Bool.true_and, Bool.and_true, beq_self_eq_true, isNo, q_is, q_isnot, q_eqB, q_neB, q_eqS, q_neS, w_lc, wipeR, gsN, zipD_len, enumD_len, rng_len, Option.isSome_some, Int.zero_add, viewL, viewS, w_forN, w_forC, kFor_nx, kFor_ct, kFor_bk, kFor_rt, x_lcD, x_jSq, kSq, x_jZp, jZ0_T, jZ0_L, kR1_eq, kR2_eq, kEn_eq, kZp_eq, kZp_T, x_iR1, x_iR2, x_iEn, x_iZp, x_iSq, it_L, it_T, x_slL, q_slS, q_listD, q_listN, q_listNT, q_listDT, q_tupL, q_tupT, PyData.list.injEq, PyData.tuple.injEq, w_frzM, exists_eq, exists_eq', q_gTu2, q_gTu3, Int.reducePow, q_intB, q_mkT0, q_mkT1, q_mkT2, q_mkT3, q_alD0, q_alD1, q_alD2, q_alD3, q_alD4, alloc_N, Int.reduceLT, Int.reduceLE, Nat.reduceLT, Nat.reduceLeDiff, Int.reduceToNat, or_true, true_or, Fl.rt.injEq, Val.d.injEq, Bool.not_true, Bool.not_false])
      refine ⟨q, e1, ?_⟩
      (try simp only [w_seq, w_nil, w_ret, w_expr, w_asg, w_if, x_par, kPar_eq, Bool.false_xor, Bool.true_xor, w_for, w_c, w_bin, w_aNil, w_aCons, w_cb, w_call, w_tst, w_not, w_and, w_or, w_eif, w_frzE, x_eAnd, x_eOr, bif2_d, w_eNot, w_eNeg, x_chain, w_mt, w_isi, w_lst, w_tup, w_eSl, w_oSo, w_oNo, eVar, wp_some, wp_bnd, wp_map, wpS_some, bnd_some, kSeq_nx, kSeq_rt, kSeq_bk, kSeq_ct, q_addI, q_sub, q_lt, q_gt, q_ge, q_le, q_eqI, q_neI, q_abs, q_max, q_min, q_intI, q_intB, q_lenL, q_lenT, q_ixL, q_ixT, q_gN, q_gsNil, w_gsCons, w_gSub2, q_frzD, List.getElem?_cons_zero, List.getElem?_cons_succ, List.set_cons_zero, List.set_cons_succ, List.length_cons, List.length_nil, if_true, Option.map_some, decide_eq_true_eq, decide_eq_false_iff_not, decide_true, decide_false, Bool.false_eq_true, if_false, forall_const, true_implies, false_implies, and_true, true_and, reduceIte, reduceCtorEq, List.length_map, w_mulI, w_modI, w_divI, w_divmod, w_pow, at_0, at_1, at_2, Option.some.injEq, exists_eq_left', exists_eq_left, false_and, or_false, PyData.int.injEq, wp_none, wpS_none, imp_false, Decidable.not_not, sizeLine_eq, Nat.reduceAdd, not_true_eq_false, not_false_eq_true, wp_ite, w_atD, look_d, List.any_cons, List.any_nil, isT, tyN, String.reduceBEq, Bool.or_false, Bool.false_or, Bool.true_or, Bool.or_true, Bool.and_false, Bool.false_and, Bool.true_and, Bool.and_true, beq_self_eq_true, isNo, q_is, q_isnot, q_eqB, q_neB, q_eqS, q_neS, w_lc, wipeR, gsN, zipD_len, enumD_len, rng_len, Option.isSome_some, Int.zero_add, viewL, viewS, w_forN, w_forC, kFor_nx, kFor_ct, kFor_bk, kFor_rt, x_lcD, x_jSq, kSq, x_jZp, jZ0_T, jZ0_L, kR1_eq, kR2_eq, kEn_eq, kZp_eq, kZp_T, x_iR1, x_iR2, x_iEn, x_iZp, x_iSq, it_L, it_T, x_slL, q_slS, q_listD, q_listN, q_listNT, q_listDT, q_tupL, q_tupT, PyData.list.injEq, PyData.tuple.injEq, w_frzM, exists_eq, exists_eq', q_gTu2, q_gTu3, Int.reducePow, q_intB, q_mkT0, q_mkT1, q_mkT2, q_mkT3, q_alD0, q_alD1, q_alD2, q_alD3, q_alD4, alloc_N, Int.reduceLT, Int.reduceLE, Nat.reduceLT, Nat.reduceLeDiff, Int.reduceToNat, or_true, true_or, Fl.rt.injEq, Val.d.injEq, Bool.not_true, Bool.not_false, q_append hc8 hz])
      exact fin q 10 S8 hq (by decide) ((g4.dr ((g5.trans g6).trans g8)).mono (by omega)) hc8 _
  · intro ρ S4 h
    rw [hI] at h
    obtain ⟨ds, l, u3, u4, rfl, g4, hc4, hl, hp⟩ := h
    rw [rng_len] at *
    simp only [w_seq, w_nil, w_ret, w_expr, w_asg, w_if, x_par, kPar_eq, Bool.false_xor, Bool.true_xor, w_for, w_c, w_bin, w_aNil, w_aCons, w_cb, w_call, w_tst, w_not, w_and, w_or, w_eif, w_frzE, x_eAnd, x_eOr, bif2_d, w_eNot, w_eNeg, x_chain, w_mt, w_isi, w_lst, w_tup, w_eSl, w_oSo, w_oNo, eVar, wp_some, wp_bnd, wp_map, wpS_some, bnd_some, kSeq_nx, kSeq_rt, kSeq_bk, kSeq_ct, q_addI, q_sub, q_lt, q_gt, q_ge, q_le, q_eqI, q_neI, q_abs, q_max, q_min, q_intI, q_intB, q_lenL, q_lenT, q_ixL, q_ixT, q_gN, q_gsNil, w_gsCons, w_gSub2, q_frzD, List.getElem?_cons_zero, List.getElem?_cons_succ, List.set_cons_zero, List.set_cons_succ, List.length_cons, List.length_nil, if_true, Option.map_some, decide_eq_true_eq, decide_eq_false_iff_not, decide_true, decide_false, Bool.false_eq_true, if_false, forall_const, true_implies, false_implies, and_true, true_and, reduceIte, reduceCtorEq, List.length_map, w_mulI, w_modI, w_divI, w_divmod, w_pow, at_0, at_1, at_2, Option.some.injEq, exists_eq_left', exists_eq_left, false_and, or_false, PyData.int.injEq, wp_none, wpS_none, imp_false, Decidable.not_not, sizeLine_eq, Nat.reduceAdd, not_true_eq_false, not_false_eq_true, wp_ite, w_atD, look_d, List.any_cons, List.any_nil, isT, tyN, String.reduceBEq, Bool.or_false, Bool.false_or, Bool.true_or, Bool.or_true, Bool.and_false, Bool.false_and, Bool.true_and, Bool.and_true, beq_self_eq_true, isNo, q_is, q_isnot, q_eqB, q_neB, q_eqS, q_neS, w_lc, wipeR, gsN, zipD_len, enumD_len, rng_len, Option.isSome_some, Int.zero_add, viewL, viewS, w_forN, w_forC, kFor_nx, kFor_ct, kFor_bk, kFor_rt, x_lcD, x_jSq, kSq, x_jZp, jZ0_T, jZ0_L, kR1_eq, kR2_eq, kEn_eq, kZp_eq, kZp_T, x_iR1, x_iR2, x_iEn, x_iZp, x_iSq, it_L, it_T, x_slL, q_slS, q_listD, q_listN, q_listNT, q_listDT, q_tupL, q_tupT, PyData.list.injEq, PyData.tuple.injEq, w_frzM, exists_eq, exists_eq', q_gTu2, q_gTu3, Int.reducePow, q_intB, q_mkT0, q_mkT1, q_mkT2, q_mkT3, q_alD0, q_alD1, q_alD2, q_alD3, q_alD4, alloc_N, Int.reduceLT, Int.reduceLE, Nat.reduceLT, Nat.reduceLeDiff, Int.reduceToNat, or_true, true_or, Fl.rt.injEq, Val.d.injEq, Bool.not_true, Bool.not_false, q_frzN hc4]
    exact ⟨(g4.setN hj hb.lt _).mono (by omega), by simp, by rw [List.length_append, List.length_singleton]; omega, hp⟩

end QW

namespace QW
open PySem PySem.Spec PyProof.Rows L2 QL
theorem right_ok {S : Sto} {k N : Nat} (hb : Bx N S k) (hN : N < 10000000000) : wp (p_law_right [.c k] S) fun r S' => ∃ x, r = .d x ∧ Dr k (N + 10000) S S' ∧ x = .bool true := by
  unfold p_law_right
  refine w_fnD hb ?_
  show wpS (f_law_right [some (.c k), none, none, none, none, none, none, none, none, none, none] S) _
  unfold f_law_right
  rw [w_seq]
  (try simp only [w_nil, w_ret, w_expr, w_asg, x_par, kPar_eq, Bool.false_xor, Bool.true_xor, w_for, w_c, w_bin, w_aNil, w_aCons, w_cb, w_call, w_tst, w_not, w_and, w_or, w_eif, w_frzE, x_eAnd, x_eOr, bif2_d, w_eNot, w_eNeg, x_chain, w_mt, w_isi, w_lst, w_tup, w_eSl, w_oSo, w_oNo, eVar, wp_some, wp_bnd, wp_map, wpS_some, bnd_some, kSeq_nx, kSeq_rt, kSeq_bk, kSeq_ct, q_addI, q_sub, q_lt, q_gt, q_ge, q_le, q_eqI, q_neI, q_abs, q_max, q_min, q_intI, q_intB, q_lenL, q_lenT, q_ixL, q_ixT, q_gN, q_gsNil, w_gsCons, w_gSub2, q_frzD, List.getElem?_cons_zero, List.getElem?_cons_succ, List.set_cons_zero, List.set_cons_succ, List.length_cons, List.length_nil, if_true, Option.map_some, decide_eq_true_eq, decide_eq_false_iff_not, decide_true, decide_false, Bool.false_eq_true, if_false, forall_const, true_implies, false_implies, and_true, true_and, reduceIte, reduceCtorEq, List.length_map, w_mulI, w_modI, w_divI, w_divmod, w_pow, at_0, at_1, at_2, Option.some.injEq, exists_eq_left', exists_eq_left, false_and, or_false, PyData.int.injEq, wp_none, wpS_none, imp_false, Decidable.not_not, sizeLine_eq, Nat.reduceAdd, not_true_eq_false, not_false_eq_true, wp_ite, w_atD, look_d, List.any_cons, List.any_nil, isT, tyN, String.reduceBEq, Bool.or_false, Bool.false_or, Bool.true_or, Bool.or_true, Bool.and_false, Bool.false_and, Bool.true_and, Bool.and_true, beq_self_eq_true, isNo, q_is, q_isnot, q_eqB, q_neB, q_eqS, q_neS, w_lc, wipeR, gsN, zipD_len, enumD_len, rng_len, Option.isSome_some, Int.zero_add, viewL, viewS, w_forN, w_forC, kFor_nx, kFor_ct, kFor_bk, kFor_rt, x_lcD, x_jSq, kSq, x_jZp, jZ0_T, jZ0_L, kR1_eq, kR2_eq, kEn_eq, kZp_eq, kZp_T, x_iR1, x_iR2, x_iEn, x_iZp, x_iSq, it_L, it_T, x_slL, q_slS, q_listD, q_listN, q_listNT, q_listDT, q_tupL, q_tupT, PyData.list.injEq, PyData.tuple.injEq, w_frzM, exists_eq, exists_eq', q_gTu2, q_gTu3, Int.reducePow, q_intB, q_mkT0, q_mkT1, q_mkT2, q_mkT3, q_alD0, q_alD1, q_alD2, q_alD3, q_alD4, alloc_N, Int.reduceLT, Int.reduceLE, Nat.reduceLT, Nat.reduceLeDiff, Int.reduceToNat, or_true, true_or, Fl.rt.injEq, Val.d.injEq, Bool.not_true, Bool.not_false])
  refine wp_mono (spots_ok hb (by omega)) ?_
  rintro r S1 ⟨_, rfl, g1, ds, rfl, hne, hl, hp⟩
  obtain ⟨ps, rfl⟩ := pl_vx hp
  obtain ⟨p, ps, rfl⟩ : ∃ p r, ps = p :: r := by
    cases ps with
    | nil => exact absurd rfl hne
    | cons p r => exact ⟨p, r, rfl⟩
  have ht : Tm 2 20020 (.list ((p :: ps).map vx)) := Tm.lst (n := 1) (w := 142) (fun d hd => (hp d hd).tm) (by decide) (by omega)
  rw [List.length_map, List.length_cons] at hl
  have hwy : ∀ z ∈ prs (p :: ps), way z.1 z.2 < 2000 := by
    intro z hz
    have h1 : z.1 ∈ p :: ps := (List.of_mem_zip hz).1
    have h2 : z.2 ∈ p :: ps := List.mem_of_mem_drop (List.of_mem_zip hz).2
    have b : ∀ q ∈ p :: ps, 0 ≤ q.1 ∧ q.1 ≤ 1000 ∧ 0 ≤ q.2 ∧ q.2 ≤ 1000 := fun q hq => by
      obtain ⟨a, b, e, a0, a1, b0, b1⟩ := hp (vx q) (List.mem_map.mpr ⟨q, hq, rfl⟩)
      cases e
      exact ⟨a0, a1, b0, b1⟩
    have b1 := b _ h1
    have b2 := b _ h2
    unfold way mx ab
    repeat' split
    all_goals omega
  (try simp only [w_nil, w_ret, w_expr, w_asg, x_par, kPar_eq, Bool.false_xor, Bool.true_xor, w_for, w_c, w_bin, w_aNil, w_aCons, w_cb, w_call, w_tst, w_not, w_and, w_or, w_eif, w_frzE, x_eAnd, x_eOr, bif2_d, w_eNot, w_eNeg, x_chain, w_mt, w_isi, w_lst, w_tup, w_eSl, w_oSo, w_oNo, eVar, wp_some, wp_bnd, wp_map, wpS_some, bnd_some, kSeq_nx, kSeq_rt, kSeq_bk, kSeq_ct, q_addI, q_sub, q_lt, q_gt, q_ge, q_le, q_eqI, q_neI, q_abs, q_max, q_min, q_intI, q_intB, q_lenL, q_lenT, q_ixL, q_ixT, q_gN, q_gsNil, w_gsCons, w_gSub2, q_frzD, List.getElem?_cons_zero, List.getElem?_cons_succ, List.set_cons_zero, List.set_cons_succ, List.length_cons, List.length_nil, if_true, Option.map_some, decide_eq_true_eq, decide_eq_false_iff_not, decide_true, decide_false, Bool.false_eq_true, if_false, forall_const, true_implies, false_implies, and_true, true_and, reduceIte, reduceCtorEq, List.length_map, w_mulI, w_modI, w_divI, w_divmod, w_pow, at_0, at_1, at_2, Option.some.injEq, exists_eq_left', exists_eq_left, false_and, or_false, PyData.int.injEq, wp_none, wpS_none, imp_false, Decidable.not_not, sizeLine_eq, Nat.reduceAdd, not_true_eq_false, not_false_eq_true, wp_ite, w_atD, look_d, List.any_cons, List.any_nil, isT, tyN, String.reduceBEq, Bool.or_false, Bool.false_or, Bool.true_or, Bool.or_true, Bool.and_false, Bool.false_and, Bool.true_and, Bool.and_true, beq_self_eq_true, isNo, q_is, q_isnot, q_eqB, q_neB, q_eqS, q_neS, w_lc, wipeR, gsN, zipD_len, enumD_len, rng_len, Option.isSome_some, Int.zero_add, viewL, viewS, w_forN, w_forC, kFor_nx, kFor_ct, kFor_bk, kFor_rt, x_lcD, x_jSq, kSq, x_jZp, jZ0_T, jZ0_L, kR1_eq, kR2_eq, kEn_eq, kZp_eq, kZp_T, x_iR1, x_iR2, x_iEn, x_iZp, x_iSq, it_L, it_T, x_slL, q_slS, q_listD, q_listN, q_listNT, q_listDT, q_tupL, q_tupT, PyData.list.injEq, PyData.tuple.injEq, w_frzM, exists_eq, exists_eq', q_gTu2, q_gTu3, Int.reducePow, q_intB, q_mkT0, q_mkT1, q_mkT2, q_mkT3, q_alD0, q_alD1, q_alD2, q_alD3, q_alD4, alloc_N, Int.reduceLT, Int.reduceLE, Nat.reduceLT, Nat.reduceLeDiff, Int.reduceToNat, or_true, true_or, Fl.rt.injEq, Val.d.injEq, Bool.not_true, Bool.not_false])
  refine take_i g1.box (by omega) (by decide) (by decide) fun a S2 a0 a1 g2 => ?_
  (try simp only [w_nil, w_ret, w_expr, w_asg, x_par, kPar_eq, Bool.false_xor, Bool.true_xor, w_for, w_c, w_bin, w_aNil, w_aCons, w_cb, w_call, w_tst, w_not, w_and, w_or, w_eif, w_frzE, x_eAnd, x_eOr, bif2_d, w_eNot, w_eNeg, x_chain, w_mt, w_isi, w_lst, w_tup, w_eSl, w_oSo, w_oNo, eVar, wp_some, wp_bnd, wp_map, wpS_some, bnd_some, kSeq_nx, kSeq_rt, kSeq_bk, kSeq_ct, q_addI, q_sub, q_lt, q_gt, q_ge, q_le, q_eqI, q_neI, q_abs, q_max, q_min, q_intI, q_intB, q_lenL, q_lenT, q_ixL, q_ixT, q_gN, q_gsNil, w_gsCons, w_gSub2, q_frzD, List.getElem?_cons_zero, List.getElem?_cons_succ, List.set_cons_zero, List.set_cons_succ, List.length_cons, List.length_nil, if_true, Option.map_some, decide_eq_true_eq, decide_eq_false_iff_not, decide_true, decide_false, Bool.false_eq_true, if_false, forall_const, true_implies, false_implies, and_true, true_and, reduceIte, reduceCtorEq, List.length_map, w_mulI, w_modI, w_divI, w_divmod, w_pow, at_0, at_1, at_2, Option.some.injEq, exists_eq_left', exists_eq_left, false_and, or_false, PyData.int.injEq, wp_none, wpS_none, imp_false, Decidable.not_not, sizeLine_eq, Nat.reduceAdd, not_true_eq_false, not_false_eq_true, wp_ite, w_atD, look_d, List.any_cons, List.any_nil, isT, tyN, String.reduceBEq, Bool.or_false, Bool.false_or, Bool.true_or, Bool.or_true, Bool.and_false, Bool.false_and, Bool.true_and, Bool.and_true, beq_self_eq_true, isNo, q_is, q_isnot, q_eqB, q_neB, q_eqS, q_neS, w_lc, wipeR, gsN, zipD_len, enumD_len, rng_len, Option.isSome_some, Int.zero_add, viewL, viewS, w_forN, w_forC, kFor_nx, kFor_ct, kFor_bk, kFor_rt, x_lcD, x_jSq, kSq, x_jZp, jZ0_T, jZ0_L, kR1_eq, kR2_eq, kEn_eq, kZp_eq, kZp_T, x_iR1, x_iR2, x_iEn, x_iZp, x_iSq, it_L, it_T, x_slL, q_slS, q_listD, q_listN, q_listNT, q_listDT, q_tupL, q_tupT, PyData.list.injEq, PyData.tuple.injEq, w_frzM, exists_eq, exists_eq', q_gTu2, q_gTu3, Int.reducePow, q_intB, q_mkT0, q_mkT1, q_mkT2, q_mkT3, q_alD0, q_alD1, q_alD2, q_alD3, q_alD4, alloc_N, Int.reduceLT, Int.reduceLE, Nat.reduceLT, Nat.reduceLeDiff, Int.reduceToNat, or_true, true_or, Fl.rt.injEq, Val.d.injEq, Bool.not_true, Bool.not_false])
  refine take_i g2.box (by omega) (by decide) (by decide) fun b S3 b0 b1 g3 => ?_
  obtain ⟨_, e1, w, rfl, w0, w1⟩ := at_all (xs := [PyData.int 0, .int 1, .int a]) (P := fun x => ∃ w : Int, x = .int w ∧ 0 ≤ w ∧ w ≤ 20) b0 (by simpa using b1) (by
    intro d hd
    simp only [List.mem_cons, List.not_mem_nil, or_false] at hd
    rcases hd with rfl | rfl | rfl
    · exact ⟨_, rfl, by decide, by decide⟩
    · exact ⟨_, rfl, by decide, by decide⟩
    · exact ⟨_, rfl, a0, by omega⟩)
  (try simp only [w_nil, w_ret, w_expr, w_asg, x_par, kPar_eq, Bool.false_xor, Bool.true_xor, w_for, w_c, w_bin, w_aNil, w_aCons, w_cb, w_call, w_tst, w_not, w_and, w_or, w_eif, w_frzE, x_eAnd, x_eOr, bif2_d, w_eNot, w_eNeg, x_chain, w_mt, w_isi, w_lst, w_tup, w_eSl, w_oSo, w_oNo, eVar, wp_some, wp_bnd, wp_map, wpS_some, bnd_some, kSeq_nx, kSeq_rt, kSeq_bk, kSeq_ct, q_addI, q_sub, q_lt, q_gt, q_ge, q_le, q_eqI, q_neI, q_abs, q_max, q_min, q_intI, q_intB, q_lenL, q_lenT, q_ixL, q_ixT, q_gN, q_gsNil, w_gsCons, w_gSub2, q_frzD, List.getElem?_cons_zero, List.getElem?_cons_succ, List.set_cons_zero, List.set_cons_succ, List.length_cons, List.length_nil, if_true, Option.map_some, decide_eq_true_eq, decide_eq_false_iff_not, decide_true, decide_false, Bool.false_eq_true, if_false, forall_const, true_implies, false_implies, and_true, true_and, reduceIte, reduceCtorEq, List.length_map, w_mulI, w_modI, w_divI, w_divmod, w_pow, at_0, at_1, at_2, Option.some.injEq, exists_eq_left', exists_eq_left, false_and, or_false, PyData.int.injEq, wp_none, wpS_none, imp_false, Decidable.not_not, sizeLine_eq, Nat.reduceAdd, not_true_eq_false, not_false_eq_true, wp_ite, w_atD, look_d, List.any_cons, List.any_nil, isT, tyN, String.reduceBEq, Bool.or_false, Bool.false_or, Bool.true_or, Bool.or_true, Bool.and_false, Bool.false_and, Bool.true_and, Bool.and_true, beq_self_eq_true, isNo, q_is, q_isnot, q_eqB, q_neB, q_eqS, q_neS, w_lc, wipeR, gsN, zipD_len, enumD_len, rng_len, Option.isSome_some, Int.zero_add, viewL, viewS, w_forN, w_forC, kFor_nx, kFor_ct, kFor_bk, kFor_rt, x_lcD, x_jSq, kSq, x_jZp, jZ0_T, jZ0_L, kR1_eq, kR2_eq, kEn_eq, kZp_eq, kZp_T, x_iR1, x_iR2, x_iEn, x_iZp, x_iSq, it_L, it_T, x_slL, q_slS, q_listD, q_listN, q_listNT, q_listDT, q_tupL, q_tupT, PyData.list.injEq, PyData.tuple.injEq, w_frzM, exists_eq, exists_eq', q_gTu2, q_gTu3, Int.reducePow, q_intB, q_mkT0, q_mkT1, q_mkT2, q_mkT3, q_alD0, q_alD1, q_alD2, q_alD3, q_alD4, alloc_N, Int.reduceLT, Int.reduceLE, Nat.reduceLT, Nat.reduceLeDiff, Int.reduceToNat, or_true, true_or, Fl.rt.injEq, Val.d.injEq, Bool.not_true, Bool.not_false])
  refine ⟨_, e1, ?_⟩
  (try simp only [w_nil, w_ret, w_expr, w_asg, x_par, kPar_eq, Bool.false_xor, Bool.true_xor, w_for, w_c, w_bin, w_aNil, w_aCons, w_cb, w_call, w_tst, w_not, w_and, w_or, w_eif, w_frzE, x_eAnd, x_eOr, bif2_d, w_eNot, w_eNeg, x_chain, w_mt, w_isi, w_lst, w_tup, w_eSl, w_oSo, w_oNo, eVar, wp_some, wp_bnd, wp_map, wpS_some, bnd_some, kSeq_nx, kSeq_rt, kSeq_bk, kSeq_ct, q_addI, q_sub, q_lt, q_gt, q_ge, q_le, q_eqI, q_neI, q_abs, q_max, q_min, q_intI, q_intB, q_lenL, q_lenT, q_ixL, q_ixT, q_gN, q_gsNil, w_gsCons, w_gSub2, q_frzD, List.getElem?_cons_zero, List.getElem?_cons_succ, List.set_cons_zero, List.set_cons_succ, List.length_cons, List.length_nil, if_true, Option.map_some, decide_eq_true_eq, decide_eq_false_iff_not, decide_true, decide_false, Bool.false_eq_true, if_false, forall_const, true_implies, false_implies, and_true, true_and, reduceIte, reduceCtorEq, List.length_map, w_mulI, w_modI, w_divI, w_divmod, w_pow, at_0, at_1, at_2, Option.some.injEq, exists_eq_left', exists_eq_left, false_and, or_false, PyData.int.injEq, wp_none, wpS_none, imp_false, Decidable.not_not, sizeLine_eq, Nat.reduceAdd, not_true_eq_false, not_false_eq_true, wp_ite, w_atD, look_d, List.any_cons, List.any_nil, isT, tyN, String.reduceBEq, Bool.or_false, Bool.false_or, Bool.true_or, Bool.or_true, Bool.and_false, Bool.false_and, Bool.true_and, Bool.and_true, beq_self_eq_true, isNo, q_is, q_isnot, q_eqB, q_neB, q_eqS, q_neS, w_lc, wipeR, gsN, zipD_len, enumD_len, rng_len, Option.isSome_some, Int.zero_add, viewL, viewS, w_forN, w_forC, kFor_nx, kFor_ct, kFor_bk, kFor_rt, x_lcD, x_jSq, kSq, x_jZp, jZ0_T, jZ0_L, kR1_eq, kR2_eq, kEn_eq, kZp_eq, kZp_T, x_iR1, x_iR2, x_iEn, x_iZp, x_iSq, it_L, it_T, x_slL, q_slS, q_listD, q_listN, q_listNT, q_listDT, q_tupL, q_tupT, PyData.list.injEq, PyData.tuple.injEq, w_frzM, exists_eq, exists_eq', q_gTu2, q_gTu3, Int.reducePow, q_intB, q_mkT0, q_mkT1, q_mkT2, q_mkT3, q_alD0, q_alD1, q_alD2, q_alD3, q_alD4, alloc_N, Int.reduceLT, Int.reduceLE, Nat.reduceLT, Nat.reduceLeDiff, Int.reduceToNat, or_true, true_or, Fl.rt.injEq, Val.d.injEq, Bool.not_true, Bool.not_false, x_strA (ht.mono (by decide) (by decide)) rfl]); rw [w_seq]; (try simp only [w_nil, w_ret, w_expr, w_asg, x_par, kPar_eq, Bool.false_xor, Bool.true_xor, w_for, w_c, w_bin, w_aNil, w_aCons, w_cb, w_call, w_tst, w_not, w_and, w_or, w_eif, w_frzE, x_eAnd, x_eOr, bif2_d, w_eNot, w_eNeg, x_chain, w_mt, w_isi, w_lst, w_tup, w_eSl, w_oSo, w_oNo, eVar, wp_some, wp_bnd, wp_map, wpS_some, bnd_some, kSeq_nx, kSeq_rt, kSeq_bk, kSeq_ct, q_addI, q_sub, q_lt, q_gt, q_ge, q_le, q_eqI, q_neI, q_abs, q_max, q_min, q_intI, q_intB, q_lenL, q_lenT, q_ixL, q_ixT, q_gN, q_gsNil, w_gsCons, w_gSub2, q_frzD, List.getElem?_cons_zero, List.getElem?_cons_succ, List.set_cons_zero, List.set_cons_succ, List.length_cons, List.length_nil, if_true, Option.map_some, decide_eq_true_eq, decide_eq_false_iff_not, decide_true, decide_false, Bool.false_eq_true, if_false, forall_const, true_implies, false_implies, and_true, true_and, reduceIte, reduceCtorEq, List.length_map, w_mulI, w_modI, w_divI, w_divmod, w_pow, at_0, at_1, at_2, Option.some.injEq, exists_eq_left', exists_eq_left, false_and, or_false, PyData.int.injEq, wp_none, wpS_none, imp_false, Decidable.not_not, sizeLine_eq, Nat.reduceAdd, not_true_eq_false, not_false_eq_true, wp_ite, w_atD, look_d, List.any_cons, List.any_nil, isT, tyN, String.reduceBEq, Bool.or_false, Bool.false_or, Bool.true_or, Bool.or_true, Bool.and_false, Bool.false_and, Bool.true_and, Bool.and_true, beq_self_eq_true, isNo, q_is, q_isnot, q_eqB, q_neB, q_eqS, q_neS, w_lc, wipeR, gsN, zipD_len, enumD_len, rng_len, Option.isSome_some, Int.zero_add, viewL, viewS, w_forN, w_forC, kFor_nx, kFor_ct, kFor_bk, kFor_rt, x_lcD, x_jSq, kSq, x_jZp, jZ0_T, jZ0_L, kR1_eq, kR2_eq, kEn_eq, kZp_eq, kZp_T, x_iR1, x_iR2, x_iEn, x_iZp, x_iSq, it_L, it_T, x_slL, q_slS, q_listD, q_listN, q_listNT, q_listDT, q_tupL, q_tupT, PyData.list.injEq, PyData.tuple.injEq, w_frzM, exists_eq, exists_eq', q_gTu2, q_gTu3, Int.reducePow, q_intB, q_mkT0, q_mkT1, q_mkT2, q_mkT3, q_alD0, q_alD1, q_alD2, q_alD3, q_alD4, alloc_N, Int.reduceLT, Int.reduceLE, Nat.reduceLT, Nat.reduceLeDiff, Int.reduceToNat, or_true, true_or, Fl.rt.injEq, Val.d.injEq, Bool.not_true, Bool.not_false, x_strA (ht.mono (by decide) (by decide)) rfl])
  refine take_i g3.box (by omega) (by decide) (by decide) fun c S4 c0 c1 g4 => ?_
  obtain ⟨_, e2, m, rfl, m0, m1⟩ := at_all (xs := [PyData.int 0, .int (w + 1), .int 20]) (P := fun x => ∃ w : Int, x = .int w ∧ 0 ≤ w ∧ w ≤ 30) c0 (by simpa using c1) (by
    intro d hd
    simp only [List.mem_cons, List.not_mem_nil, or_false] at hd
    rcases hd with rfl | rfl | rfl
    · exact ⟨_, rfl, by decide, by decide⟩
    · exact ⟨_, rfl, by omega, by omega⟩
    · exact ⟨_, rfl, by decide, by decide⟩)
  (try simp only [w_nil, w_ret, w_expr, w_asg, x_par, kPar_eq, Bool.false_xor, Bool.true_xor, w_for, w_c, w_bin, w_aNil, w_aCons, w_cb, w_call, w_tst, w_not, w_and, w_or, w_eif, w_frzE, x_eAnd, x_eOr, bif2_d, w_eNot, w_eNeg, x_chain, w_mt, w_isi, w_lst, w_tup, w_eSl, w_oSo, w_oNo, eVar, wp_some, wp_bnd, wp_map, wpS_some, bnd_some, kSeq_nx, kSeq_rt, kSeq_bk, kSeq_ct, q_addI, q_sub, q_lt, q_gt, q_ge, q_le, q_eqI, q_neI, q_abs, q_max, q_min, q_intI, q_intB, q_lenL, q_lenT, q_ixL, q_ixT, q_gN, q_gsNil, w_gsCons, w_gSub2, q_frzD, List.getElem?_cons_zero, List.getElem?_cons_succ, List.set_cons_zero, List.set_cons_succ, List.length_cons, List.length_nil, if_true, Option.map_some, decide_eq_true_eq, decide_eq_false_iff_not, decide_true, decide_false, Bool.false_eq_true, if_false, forall_const, true_implies, false_implies, and_true, true_and, reduceIte, reduceCtorEq, List.length_map, w_mulI, w_modI, w_divI, w_divmod, w_pow, at_0, at_1, at_2, Option.some.injEq, exists_eq_left', exists_eq_left, false_and, or_false, PyData.int.injEq, wp_none, wpS_none, imp_false, Decidable.not_not, sizeLine_eq, Nat.reduceAdd, not_true_eq_false, not_false_eq_true, wp_ite, w_atD, look_d, List.any_cons, List.any_nil, isT, tyN, String.reduceBEq, Bool.or_false, Bool.false_or, Bool.true_or, Bool.or_true, Bool.and_false, Bool.false_and, Bool.true_and, Bool.and_true, beq_self_eq_true, isNo, q_is, q_isnot, q_eqB, q_neB, q_eqS, q_neS, w_lc, wipeR, gsN, zipD_len, enumD_len, rng_len, Option.isSome_some, Int.zero_add, viewL, viewS, w_forN, w_forC, kFor_nx, kFor_ct, kFor_bk, kFor_rt, x_lcD, x_jSq, kSq, x_jZp, jZ0_T, jZ0_L, kR1_eq, kR2_eq, kEn_eq, kZp_eq, kZp_T, x_iR1, x_iR2, x_iEn, x_iZp, x_iSq, it_L, it_T, x_slL, q_slS, q_listD, q_listN, q_listNT, q_listDT, q_tupL, q_tupT, PyData.list.injEq, PyData.tuple.injEq, w_frzM, exists_eq, exists_eq', q_gTu2, q_gTu3, Int.reducePow, q_intB, q_mkT0, q_mkT1, q_mkT2, q_mkT3, q_alD0, q_alD1, q_alD2, q_alD3, q_alD4, alloc_N, Int.reduceLT, Int.reduceLE, Nat.reduceLT, Nat.reduceLeDiff, Int.reduceToNat, or_true, true_or, Fl.rt.injEq, Val.d.injEq, Bool.not_true, Bool.not_false])
  refine ⟨_, e2, ?_⟩
  (try simp only [w_nil, w_ret, w_expr, w_asg, x_par, kPar_eq, Bool.false_xor, Bool.true_xor, w_for, w_c, w_bin, w_aNil, w_aCons, w_cb, w_call, w_tst, w_not, w_and, w_or, w_eif, w_frzE, x_eAnd, x_eOr, bif2_d, w_eNot, w_eNeg, x_chain, w_mt, w_isi, w_lst, w_tup, w_eSl, w_oSo, w_oNo, eVar, wp_some, wp_bnd, wp_map, wpS_some, bnd_some, kSeq_nx, kSeq_rt, kSeq_bk, kSeq_ct, q_addI, q_sub, q_lt, q_gt, q_ge, q_le, q_eqI, q_neI, q_abs, q_max, q_min, q_intI, q_intB, q_lenL, q_lenT, q_ixL, q_ixT, q_gN, q_gsNil, w_gsCons, w_gSub2, q_frzD, List.getElem?_cons_zero, List.getElem?_cons_succ, List.set_cons_zero, List.set_cons_succ, List.length_cons, List.length_nil, if_true, Option.map_some, decide_eq_true_eq, decide_eq_false_iff_not, decide_true, decide_false, Bool.false_eq_true, if_false, forall_const, true_implies, false_implies, and_true, true_and, reduceIte, reduceCtorEq, List.length_map, w_mulI, w_modI, w_divI, w_divmod, w_pow, at_0, at_1, at_2, Option.some.injEq, exists_eq_left', exists_eq_left, false_and, or_false, PyData.int.injEq, wp_none, wpS_none, imp_false, Decidable.not_not, sizeLine_eq, Nat.reduceAdd, not_true_eq_false, not_false_eq_true, wp_ite, w_atD, look_d, List.any_cons, List.any_nil, isT, tyN, String.reduceBEq, Bool.or_false, Bool.false_or, Bool.true_or, Bool.or_true, Bool.and_false, Bool.false_and, Bool.true_and, Bool.and_true, beq_self_eq_true, isNo, q_is, q_isnot, q_eqB, q_neB, q_eqS, q_neS, w_lc, wipeR, gsN, zipD_len, enumD_len, rng_len, Option.isSome_some, Int.zero_add, viewL, viewS, w_forN, w_forC, kFor_nx, kFor_ct, kFor_bk, kFor_rt, x_lcD, x_jSq, kSq, x_jZp, jZ0_T, jZ0_L, kR1_eq, kR2_eq, kEn_eq, kZp_eq, kZp_T, x_iR1, x_iR2, x_iEn, x_iZp, x_iSq, it_L, it_T, x_slL, q_slS, q_listD, q_listN, q_listNT, q_listDT, q_tupL, q_tupT, PyData.list.injEq, PyData.tuple.injEq, w_frzM, exists_eq, exists_eq', q_gTu2, q_gTu3, Int.reducePow, q_intB, q_mkT0, q_mkT1, q_mkT2, q_mkT3, q_alD0, q_alD1, q_alD2, q_alD3, q_alD4, alloc_N, Int.reduceLT, Int.reduceLE, Nat.reduceLT, Nat.reduceLeDiff, Int.reduceToNat, or_true, true_or, Fl.rt.injEq, Val.d.injEq, Bool.not_true, Bool.not_false, cut_from (show (0 : Int) ≤ 1 by decide), zip_prs]); rw [w_seq]; (try simp only [w_nil, w_ret, w_expr, w_asg, x_par, kPar_eq, Bool.false_xor, Bool.true_xor, w_for, w_c, w_bin, w_aNil, w_aCons, w_cb, w_call, w_tst, w_not, w_and, w_or, w_eif, w_frzE, x_eAnd, x_eOr, bif2_d, w_eNot, w_eNeg, x_chain, w_mt, w_isi, w_lst, w_tup, w_eSl, w_oSo, w_oNo, eVar, wp_some, wp_bnd, wp_map, wpS_some, bnd_some, kSeq_nx, kSeq_rt, kSeq_bk, kSeq_ct, q_addI, q_sub, q_lt, q_gt, q_ge, q_le, q_eqI, q_neI, q_abs, q_max, q_min, q_intI, q_intB, q_lenL, q_lenT, q_ixL, q_ixT, q_gN, q_gsNil, w_gsCons, w_gSub2, q_frzD, List.getElem?_cons_zero, List.getElem?_cons_succ, List.set_cons_zero, List.set_cons_succ, List.length_cons, List.length_nil, if_true, Option.map_some, decide_eq_true_eq, decide_eq_false_iff_not, decide_true, decide_false, Bool.false_eq_true, if_false, forall_const, true_implies, false_implies, and_true, true_and, reduceIte, reduceCtorEq, List.length_map, w_mulI, w_modI, w_divI, w_divmod, w_pow, at_0, at_1, at_2, Option.some.injEq, exists_eq_left', exists_eq_left, false_and, or_false, PyData.int.injEq, wp_none, wpS_none, imp_false, Decidable.not_not, sizeLine_eq, Nat.reduceAdd, not_true_eq_false, not_false_eq_true, wp_ite, w_atD, look_d, List.any_cons, List.any_nil, isT, tyN, String.reduceBEq, Bool.or_false, Bool.false_or, Bool.true_or, Bool.or_true, Bool.and_false, Bool.false_and, Bool.true_and, Bool.and_true, beq_self_eq_true, isNo, q_is, q_isnot, q_eqB, q_neB, q_eqS, q_neS, w_lc, wipeR, gsN, zipD_len, enumD_len, rng_len, Option.isSome_some, Int.zero_add, viewL, viewS, w_forN, w_forC, kFor_nx, kFor_ct, kFor_bk, kFor_rt, x_lcD, x_jSq, kSq, x_jZp, jZ0_T, jZ0_L, kR1_eq, kR2_eq, kEn_eq, kZp_eq, kZp_T, x_iR1, x_iR2, x_iEn, x_iZp, x_iSq, it_L, it_T, x_slL, q_slS, q_listD, q_listN, q_listNT, q_listDT, q_tupL, q_tupT, PyData.list.injEq, PyData.tuple.injEq, w_frzM, exists_eq, exists_eq', q_gTu2, q_gTu3, Int.reducePow, q_intB, q_mkT0, q_mkT1, q_mkT2, q_mkT3, q_alD0, q_alD1, q_alD2, q_alD3, q_alD4, alloc_N, Int.reduceLT, Int.reduceLE, Nat.reduceLT, Nat.reduceLeDiff, Int.reduceToNat, or_true, true_or, Fl.rt.injEq, Val.d.injEq, Bool.not_true, Bool.not_false, cut_from (show (0 : Int) ≤ 1 by decide), zip_prs])
  have lpr : (prs (p :: ps)).length ≤ ps.length := by unfold prs; rw [List.length_zip, List.length_drop, List.length_cons]; omega
  refine ⟨by omega, w_lcX (fun p => .int (way p.1 p.2)) (fun p _ => ?_) ?_⟩
  · simp only [w_seq, w_nil, w_ret, w_expr, w_asg, w_if, x_par, kPar_eq, Bool.false_xor, Bool.true_xor, w_for, w_c, w_bin, w_aNil, w_aCons, w_cb, w_call, w_tst, w_not, w_and, w_or, w_eif, w_frzE, x_eAnd, x_eOr, bif2_d, w_eNot, w_eNeg, x_chain, w_mt, w_isi, w_lst, w_tup, w_eSl, w_oSo, w_oNo, eVar, wp_some, wp_bnd, wp_map, wpS_some, bnd_some, kSeq_nx, kSeq_rt, kSeq_bk, kSeq_ct, q_addI, q_sub, q_lt, q_gt, q_ge, q_le, q_eqI, q_neI, q_abs, q_max, q_min, q_intI, q_intB, q_lenL, q_lenT, q_ixL, q_ixT, q_gN, q_gsNil, w_gsCons, w_gSub2, q_frzD, List.getElem?_cons_zero, List.getElem?_cons_succ, List.set_cons_zero, List.set_cons_succ, List.length_cons, List.length_nil, if_true, Option.map_some, decide_eq_true_eq, decide_eq_false_iff_not, decide_true, decide_false, Bool.false_eq_true, if_false, forall_const, true_implies, false_implies, and_true, true_and, reduceIte, reduceCtorEq, List.length_map, w_mulI, w_modI, w_divI, w_divmod, w_pow, at_0, at_1, at_2, Option.some.injEq, exists_eq_left', exists_eq_left, false_and, or_false, PyData.int.injEq, wp_none, wpS_none, imp_false, Decidable.not_not, sizeLine_eq, Nat.reduceAdd, not_true_eq_false, not_false_eq_true, wp_ite, w_atD, look_d, List.any_cons, List.any_nil, isT, tyN, String.reduceBEq, Bool.or_false, Bool.false_or, Bool.true_or, Bool.or_true, Bool.and_false, Bool.false_and, Bool.true_and, Bool.and_true, beq_self_eq_true, isNo, q_is, q_isnot, q_eqB, q_neB, q_eqS, q_neS, w_lc, wipeR, gsN, zipD_len, enumD_len, rng_len, Option.isSome_some, Int.zero_add, viewL, viewS, w_forN, w_forC, kFor_nx, kFor_ct, kFor_bk, kFor_rt, x_lcD, x_jSq, kSq, x_jZp, jZ0_T, jZ0_L, kR1_eq, kR2_eq, kEn_eq, kZp_eq, kZp_T, x_iR1, x_iR2, x_iEn, x_iZp, x_iSq, it_L, it_T, x_slL, q_slS, q_listD, q_listN, q_listNT, q_listDT, q_tupL, q_tupT, PyData.list.injEq, PyData.tuple.injEq, w_frzM, exists_eq, exists_eq', q_gTu2, q_gTu3, Int.reducePow, q_intB, q_mkT0, q_mkT1, q_mkT2, q_mkT3, q_alD0, q_alD1, q_alD2, q_alD3, q_alD4, alloc_N, Int.reduceLT, Int.reduceLE, Nat.reduceLT, Nat.reduceLeDiff, Int.reduceToNat, or_true, true_or, Fl.rt.injEq, Val.d.injEq, Bool.not_true, Bool.not_false, lway_eq]
  rw [alloc_D]
  (try simp only [w_nil, w_ret, w_expr, w_asg, x_par, kPar_eq, Bool.false_xor, Bool.true_xor, w_for, w_c, w_bin, w_aNil, w_aCons, w_cb, w_call, w_tst, w_not, w_and, w_or, w_eif, w_frzE, x_eAnd, x_eOr, bif2_d, w_eNot, w_eNeg, x_chain, w_mt, w_isi, w_lst, w_tup, w_eSl, w_oSo, w_oNo, eVar, wp_some, wp_bnd, wp_map, wpS_some, bnd_some, kSeq_nx, kSeq_rt, kSeq_bk, kSeq_ct, q_addI, q_sub, q_lt, q_gt, q_ge, q_le, q_eqI, q_neI, q_abs, q_max, q_min, q_intI, q_intB, q_lenL, q_lenT, q_ixL, q_ixT, q_gN, q_gsNil, w_gsCons, w_gSub2, q_frzD, List.getElem?_cons_zero, List.getElem?_cons_succ, List.set_cons_zero, List.set_cons_succ, List.length_cons, List.length_nil, if_true, Option.map_some, decide_eq_true_eq, decide_eq_false_iff_not, decide_true, decide_false, Bool.false_eq_true, if_false, forall_const, true_implies, false_implies, and_true, true_and, reduceIte, reduceCtorEq, List.length_map, w_mulI, w_modI, w_divI, w_divmod, w_pow, at_0, at_1, at_2, Option.some.injEq, exists_eq_left', exists_eq_left, false_and, or_false, PyData.int.injEq, wp_none, wpS_none, imp_false, Decidable.not_not, sizeLine_eq, Nat.reduceAdd, not_true_eq_false, not_false_eq_true, wp_ite, w_atD, look_d, List.any_cons, List.any_nil, isT, tyN, String.reduceBEq, Bool.or_false, Bool.false_or, Bool.true_or, Bool.or_true, Bool.and_false, Bool.false_and, Bool.true_and, Bool.and_true, beq_self_eq_true, isNo, q_is, q_isnot, q_eqB, q_neB, q_eqS, q_neS, w_lc, wipeR, gsN, zipD_len, enumD_len, rng_len, Option.isSome_some, Int.zero_add, viewL, viewS, w_forN, w_forC, kFor_nx, kFor_ct, kFor_bk, kFor_rt, x_lcD, x_jSq, kSq, x_jZp, jZ0_T, jZ0_L, kR1_eq, kR2_eq, kEn_eq, kZp_eq, kZp_T, x_iR1, x_iR2, x_iEn, x_iZp, x_iSq, it_L, it_T, x_slL, q_slS, q_listD, q_listN, q_listNT, q_listDT, q_tupL, q_tupT, PyData.list.injEq, PyData.tuple.injEq, w_frzM, exists_eq, exists_eq', q_gTu2, q_gTu3, Int.reducePow, q_intB, q_mkT0, q_mkT1, q_mkT2, q_mkT3, q_alD0, q_alD1, q_alD2, q_alD3, q_alD4, alloc_N, Int.reduceLT, Int.reduceLE, Nat.reduceLT, Nat.reduceLeDiff, Int.reduceToNat, or_true, true_or, Fl.rt.injEq, Val.d.injEq, Bool.not_true, Bool.not_false, q_sumF])
  rw [w_seq]
  (try simp only [w_nil, w_ret, w_expr, w_asg, x_par, kPar_eq, Bool.false_xor, Bool.true_xor, w_for, w_c, w_bin, w_aNil, w_aCons, w_cb, w_call, w_tst, w_not, w_and, w_or, w_eif, w_frzE, x_eAnd, x_eOr, bif2_d, w_eNot, w_eNeg, x_chain, w_mt, w_isi, w_lst, w_tup, w_eSl, w_oSo, w_oNo, eVar, wp_some, wp_bnd, wp_map, wpS_some, bnd_some, kSeq_nx, kSeq_rt, kSeq_bk, kSeq_ct, q_addI, q_sub, q_lt, q_gt, q_ge, q_le, q_eqI, q_neI, q_abs, q_max, q_min, q_intI, q_intB, q_lenL, q_lenT, q_ixL, q_ixT, q_gN, q_gsNil, w_gsCons, w_gSub2, q_frzD, List.getElem?_cons_zero, List.getElem?_cons_succ, List.set_cons_zero, List.set_cons_succ, List.length_cons, List.length_nil, if_true, Option.map_some, decide_eq_true_eq, decide_eq_false_iff_not, decide_true, decide_false, Bool.false_eq_true, if_false, forall_const, true_implies, false_implies, and_true, true_and, reduceIte, reduceCtorEq, List.length_map, w_mulI, w_modI, w_divI, w_divmod, w_pow, at_0, at_1, at_2, Option.some.injEq, exists_eq_left', exists_eq_left, false_and, or_false, PyData.int.injEq, wp_none, wpS_none, imp_false, Decidable.not_not, sizeLine_eq, Nat.reduceAdd, not_true_eq_false, not_false_eq_true, wp_ite, w_atD, look_d, List.any_cons, List.any_nil, isT, tyN, String.reduceBEq, Bool.or_false, Bool.false_or, Bool.true_or, Bool.or_true, Bool.and_false, Bool.false_and, Bool.true_and, Bool.and_true, beq_self_eq_true, isNo, q_is, q_isnot, q_eqB, q_neB, q_eqS, q_neS, w_lc, wipeR, gsN, zipD_len, enumD_len, rng_len, Option.isSome_some, Int.zero_add, viewL, viewS, kFor_nx, kFor_ct, kFor_bk, kFor_rt, x_lcD, x_jSq, kSq, x_jZp, jZ0_T, jZ0_L, kR1_eq, kR2_eq, kEn_eq, kZp_eq, kZp_T, x_iR1, x_iR2, x_iEn, x_iZp, x_iSq, it_L, it_T, x_slL, q_slS, q_listD, q_listN, q_listNT, q_listDT, q_tupL, q_tupT, PyData.list.injEq, PyData.tuple.injEq, w_frzM, exists_eq, exists_eq', q_gTu2, q_gTu3, Int.reducePow, q_intB, q_mkT0, q_mkT1, q_mkT2, q_mkT3, q_alD0, q_alD1, q_alD2, q_alD3, q_alD4, alloc_N, Int.reduceLT, Int.reduceLE, Nat.reduceLT, Nat.reduceLeDiff, Int.reduceToNat, or_true, true_or, Fl.rt.injEq, Val.d.injEq, Bool.not_true, Bool.not_false])
  generalize htot : ((prs (p :: ps)).map fun z => way z.1 z.2).sum = tot
  have gg : Gr k (N + 2000) S S4 := (((g1.trans g2).trans g3).trans g4).gr.mono (by omega)
  obtain ⟨I, hI⟩ : ∃ X : Nat → Rho → Sto → Prop, X = fun (i : Nat) (ρ : Rho) (S' : Sto) => ∃ (u5 u6 u8 u9 u10 : Option Val), ρ = [some (.c k), some (.d (.list ((p :: ps).map vx))), some (.d (.int w)), some (.d (.str (PyData.list ((p :: ps).map vx)).shown)), some (.d (.int m)), u5, u6, some (.d (.int tot)), u8, u9, u10] ∧ Gr k (N + 2000) S S' := ⟨_, rfl⟩
  refine w_loop I (by rw [hI]; exact ⟨_, _, _, _, _, rfl, gg⟩) ?_ ?_
  · intro i d ρ S5 hd h
    rw [hI] at h
    obtain ⟨u5, u6, u8, u9, u10, rfl, g5⟩ := h
    obtain ⟨t, rfl, t0, t1⟩ : ∃ t : Int, d = .int t ∧ 0 ≤ t ∧ t < 1000 := by
      have hm := List.mem_of_getElem? hd
      simp only [List.mem_cons, List.not_mem_nil, or_false] at hm
      rcases hm with rfl | rfl | rfl
      · exact ⟨_, rfl, w0, by omega⟩
      · exact ⟨_, rfl, by split <;> omega, by split <;> omega⟩
      · exact ⟨_, rfl, w0, by omega⟩
    (try simp only [w_nil, w_ret, w_expr, w_asg, x_par, kPar_eq, Bool.false_xor, Bool.true_xor, w_for, w_c, w_bin, w_aNil, w_aCons, w_cb, w_call, w_tst, w_not, w_and, w_or, w_eif, w_frzE, x_eAnd, x_eOr, bif2_d, w_eNot, w_eNeg, x_chain, w_mt, w_isi, w_lst, w_tup, w_eSl, w_oSo, w_oNo, eVar, wp_some, wp_bnd, wp_map, wpS_some, bnd_some, kSeq_nx, kSeq_rt, kSeq_bk, kSeq_ct, q_addI, q_sub, q_lt, q_gt, q_ge, q_le, q_eqI, q_neI, q_abs, q_max, q_min, q_intI, q_intB, q_lenL, q_lenT, q_ixL, q_ixT, q_gN, q_gsNil, w_gsCons, w_gSub2, q_frzD, List.getElem?_cons_zero, List.getElem?_cons_succ, List.set_cons_zero, List.set_cons_succ, List.length_cons, List.length_nil, if_true, Option.map_some, decide_eq_true_eq, decide_eq_false_iff_not, decide_true, decide_false, Bool.false_eq_true, if_false, forall_const, true_implies, false_implies, and_true, true_and, reduceIte, reduceCtorEq, List.length_map, w_mulI, w_modI, w_divI, w_divmod, w_pow, at_0, at_1, at_2, Option.some.injEq, exists_eq_left', exists_eq_left, false_and, or_false, PyData.int.injEq, wp_none, wpS_none, imp_false, Decidable.not_not, sizeLine_eq, Nat.reduceAdd, not_true_eq_false, not_false_eq_true, wp_ite, w_atD, look_d, List.any_cons, List.any_nil, isT, tyN, String.reduceBEq, Bool.or_false, Bool.false_or, Bool.true_or, Bool.or_true, Bool.and_false, Bool.false_and, Bool.true_and, Bool.and_true, beq_self_eq_true, isNo, q_is, q_isnot, q_eqB, q_neB, q_eqS, q_neS, w_lc, wipeR, gsN, zipD_len, enumD_len, rng_len, Option.isSome_some, Int.zero_add, viewL, viewS, w_forN, w_forC, kFor_nx, kFor_ct, kFor_bk, kFor_rt, x_lcD, x_jSq, kSq, x_jZp, jZ0_T, jZ0_L, kR1_eq, kR2_eq, kEn_eq, kZp_eq, kZp_T, x_iR1, x_iR2, x_iEn, x_iZp, x_iSq, it_L, it_T, x_slL, q_slS, q_listD, q_listN, q_listNT, q_listDT, q_tupL, q_tupT, PyData.list.injEq, PyData.tuple.injEq, w_frzM, exists_eq, exists_eq', q_gTu2, q_gTu3, Int.reducePow, q_intB, q_mkT0, q_mkT1, q_mkT2, q_mkT3, q_alD0, q_alD1, q_alD2, q_alD3, q_alD4, alloc_N, Int.reduceLT, Int.reduceLE, Nat.reduceLT, Nat.reduceLeDiff, Int.reduceToNat, or_true, true_or, Fl.rt.injEq, Val.d.injEq, Bool.not_true, Bool.not_false]); rw [w_seq]; (try simp only [w_nil, w_ret, w_expr, w_asg, x_par, kPar_eq, Bool.false_xor, Bool.true_xor, w_for, w_c, w_bin, w_aNil, w_aCons, w_cb, w_call, w_tst, w_not, w_and, w_or, w_eif, w_frzE, x_eAnd, x_eOr, bif2_d, w_eNot, w_eNeg, x_chain, w_mt, w_isi, w_lst, w_tup, w_eSl, w_oSo, w_oNo, eVar, wp_some, wp_bnd, wp_map, wpS_some, bnd_some, kSeq_nx, kSeq_rt, kSeq_bk, kSeq_ct, q_addI, q_sub, q_lt, q_gt, q_ge, q_le, q_eqI, q_neI, q_abs, q_max, q_min, q_intI, q_intB, q_lenL, q_lenT, q_ixL, q_ixT, q_gN, q_gsNil, w_gsCons, w_gSub2, q_frzD, List.getElem?_cons_zero, List.getElem?_cons_succ, List.set_cons_zero, List.set_cons_succ, List.length_cons, List.length_nil, if_true, Option.map_some, decide_eq_true_eq, decide_eq_false_iff_not, decide_true, decide_false, Bool.false_eq_true, if_false, forall_const, true_implies, false_implies, and_true, true_and, reduceIte, reduceCtorEq, List.length_map, w_mulI, w_modI, w_divI, w_divmod, w_pow, at_0, at_1, at_2, Option.some.injEq, exists_eq_left', exists_eq_left, false_and, or_false, PyData.int.injEq, wp_none, wpS_none, imp_false, Decidable.not_not, sizeLine_eq, Nat.reduceAdd, not_true_eq_false, not_false_eq_true, wp_ite, w_atD, look_d, List.any_cons, List.any_nil, isT, tyN, String.reduceBEq, Bool.or_false, Bool.false_or, Bool.true_or, Bool.or_true, Bool.and_false, Bool.false_and, Bool.true_and, Bool.and_true, beq_self_eq_true, isNo, q_is, q_isnot, q_eqB, q_neB, q_eqS, q_neS, w_lc, wipeR, gsN, zipD_len, enumD_len, rng_len, Option.isSome_some, Int.zero_add, viewL, viewS, w_forN, w_forC, kFor_nx, kFor_ct, kFor_bk, kFor_rt, x_lcD, x_jSq, kSq, x_jZp, jZ0_T, jZ0_L, kR1_eq, kR2_eq, kEn_eq, kZp_eq, kZp_T, x_iR1, x_iR2, x_iEn, x_iZp, x_iSq, it_L, it_T, x_slL, q_slS, q_listD, q_listN, q_listNT, q_listDT, q_tupL, q_tupT, PyData.list.injEq, PyData.tuple.injEq, w_frzM, exists_eq, exists_eq', q_gTu2, q_gTu3, Int.reducePow, q_intB, q_mkT0, q_mkT1, q_mkT2, q_mkT3, q_alD0, q_alD1, q_alD2, q_alD3, q_alD4, alloc_N, Int.reduceLT, Int.reduceLE, Nat.reduceLT, Nat.reduceLeDiff, Int.reduceToNat, or_true, true_or, Fl.rt.injEq, Val.d.injEq, Bool.not_true, Bool.not_false])
    refine wp_mono (trackby_ok t0 t1 (by omega) hwy) ?_
    rintro r S6 ⟨rfl, ds, hS6, rfl⟩
    have hc6 : S6[S5.length]? = some (ic (trk t.toNat p ps)) := by rw [hS6, get_new]; rfl
    have g6 : Gr k (N + 2000) S S6 := by rw [hS6]; exact g5.ex (Ex.new _ _)
    have hlen0 : (trk t.toNat p ps).length < 999999 := by
      have := seg_len (w := t.toNat) (by omega) (prs (p :: ps)) hwy
      have h2 : (prs (p :: ps)).length ≤ ps.length := by unfold prs; rw [List.length_zip, List.length_drop, List.length_cons]; omega
      unfold trk
      rw [List.length_append, List.length_replicate]
      omega
    have hlen : (trk t.toNat p ps).length < 1000000 := by omega
    (try simp only [w_nil, w_ret, w_expr, w_asg, x_par, kPar_eq, Bool.false_xor, Bool.true_xor, w_for, w_c, w_bin, w_aNil, w_aCons, w_cb, w_call, w_tst, w_not, w_and, w_or, w_eif, w_frzE, x_eAnd, x_eOr, bif2_d, w_eNot, w_eNeg, x_chain, w_mt, w_isi, w_lst, w_tup, w_eSl, w_oSo, w_oNo, eVar, wp_some, wp_bnd, wp_map, wpS_some, bnd_some, kSeq_nx, kSeq_rt, kSeq_bk, kSeq_ct, q_addI, q_sub, q_lt, q_gt, q_ge, q_le, q_eqI, q_neI, q_abs, q_max, q_min, q_intI, q_intB, q_lenL, q_lenT, q_ixL, q_ixT, q_gN, q_gsNil, w_gsCons, w_gSub2, q_frzD, List.getElem?_cons_zero, List.getElem?_cons_succ, List.set_cons_zero, List.set_cons_succ, List.length_cons, List.length_nil, if_true, Option.map_some, decide_eq_true_eq, decide_eq_false_iff_not, decide_true, decide_false, Bool.false_eq_true, if_false, forall_const, true_implies, false_implies, and_true, true_and, reduceIte, reduceCtorEq, List.length_map, w_mulI, w_modI, w_divI, w_divmod, w_pow, at_0, at_1, at_2, Option.some.injEq, exists_eq_left', exists_eq_left, false_and, or_false, PyData.int.injEq, wp_none, wpS_none, imp_false, Decidable.not_not, sizeLine_eq, Nat.reduceAdd, not_true_eq_false, not_false_eq_true, wp_ite, w_atD, look_d, List.any_cons, List.any_nil, isT, tyN, String.reduceBEq, Bool.or_false, Bool.false_or, Bool.true_or, Bool.or_true, Bool.and_false, Bool.false_and, Bool.true_and, Bool.and_true, beq_self_eq_true, isNo, q_is, q_isnot, q_eqB, q_neB, q_eqS, q_neS, w_lc, wipeR, gsN, zipD_len, enumD_len, rng_len, Option.isSome_some, Int.zero_add, viewL, viewS, w_forN, w_forC, kFor_nx, kFor_ct, kFor_bk, kFor_rt, x_lcD, x_jSq, kSq, x_jZp, jZ0_T, jZ0_L, kR1_eq, kR2_eq, kEn_eq, kZp_eq, kZp_T, x_iR1, x_iR2, x_iEn, x_iZp, x_iSq, it_L, it_T, x_slL, q_slS, q_listD, q_listN, q_listNT, q_listDT, q_tupL, q_tupT, PyData.list.injEq, PyData.tuple.injEq, w_frzM, exists_eq, exists_eq', q_gTu2, q_gTu3, Int.reducePow, q_intB, q_mkT0, q_mkT1, q_mkT2, q_mkT3, q_alD0, q_alD1, q_alD2, q_alD3, q_alD4, alloc_N, Int.reduceLT, Int.reduceLE, Nat.reduceLT, Nat.reduceLeDiff, Int.reduceToNat, or_true, true_or, Fl.rt.injEq, Val.d.injEq, Bool.not_true, Bool.not_false, steps_ok t0 t1 (show ps.length < 1000 by omega) hwy])
    obtain ⟨xs, b, etr, htk⟩ := trk_tk t.toNat p ps
    have hlt := trk_len t.toNat p ps
    rw [htot, Int.toNat_of_nonneg t0] at hlt
    have hnr : near1 (trk t.toNat p ps) = true := by rw [etr]; exact htk.near
    obtain ⟨ys, eys⟩ := htk.last
    have hnb : near1 (trk t.toNat p ps ++ [b + 2]) = false := by rw [etr]; exact htk.bad
    have hnn : trk t.toNat p ps ≠ [] := by rw [etr]; simp
    have hc6' : S6[S5.length]? = some (.lst (((trk t.toNat p ps).map PyData.int).map Val.d)) := hc6
    have hlast : atI ((trk t.toNat p ps).map PyData.int) (-1) = some (.int b) := by rw [etr, eys, List.map_append]; exact at_last
    have hz : (((trk t.toNat p ps).map PyData.int).map Val.d).length < sizeLine := by rw [List.length_map, List.length_map, sizeLine_eq]; omega
    have hpl : ((p :: ps).length : Int) = ps.length + 1 := by simp
    generalize htr : trk t.toNat p ps = tr at *
    have isB : ∀ (x y : Bool) (S : Sto), gIsB true (.d (.bool x)) (.d (.bool y)) S = some (.d (.bool (xor true (decide (x = y)))), S) := fun _ _ _ => rfl
    have e4 : decide ((tr.length : Int) = 1 + t * ((ps.length + 1 : Nat) : Int) + tot) = true := decide_eq_true hlt
    have hfr : frz1 (.c S5.length) (S6.set S5.length (.lst ((tr.map PyData.int).map Val.d ++ [.d (.int (b + 2))]))) = some (.list ((tr ++ [b + 2]).map .int), (S6.set S5.length (.lst ((tr.map PyData.int).map Val.d ++ [.d (.int (b + 2))]))).set S5.length (.frz (.list ((tr ++ [b + 2]).map .int)))) := by
      refine q_frzN ?_
      rw [get_set hc6', List.map_append, List.map_append]
      rfl
    have hl2 : (tr ++ [b + 2]).length < 1000000 := by
      rw [List.length_append, List.length_singleton]
      omega
    simp only [w_seq, w_nil, w_ret, w_expr, w_asg, w_if, x_par, kPar_eq, Bool.false_xor, Bool.true_xor, w_for, w_c, w_bin, w_aNil, w_aCons, w_cb, w_call, w_tst, w_not, w_and, w_or, w_eif, w_frzE, x_eAnd, x_eOr, bif2_d, w_eNot, w_eNeg, x_chain, w_mt, w_isi, w_lst, w_tup, w_eSl, w_oSo, w_oNo, eVar, wp_some, wp_bnd, wp_map, wpS_some, bnd_some, kSeq_nx, kSeq_rt, kSeq_bk, kSeq_ct, q_addI, q_sub, q_lt, q_gt, q_ge, q_le, q_eqI, q_neI, q_abs, q_max, q_min, q_intI, q_intB, q_lenL, q_lenT, q_ixL, q_ixT, q_gN, q_gsNil, w_gsCons, w_gSub2, q_frzD, List.getElem?_cons_zero, List.getElem?_cons_succ, List.set_cons_zero, List.set_cons_succ, List.length_cons, List.length_nil, if_true, Option.map_some, decide_eq_true_eq, decide_eq_false_iff_not, decide_true, decide_false, Bool.false_eq_true, if_false, forall_const, true_implies, false_implies, and_true, true_and, reduceIte, reduceCtorEq, List.length_map, w_mulI, w_modI, w_divI, w_divmod, w_pow, at_0, at_1, at_2, Option.some.injEq, exists_eq_left', exists_eq_left, false_and, or_false, PyData.int.injEq, wp_none, wpS_none, imp_false, Decidable.not_not, sizeLine_eq, Nat.reduceAdd, not_true_eq_false, not_false_eq_true, wp_ite, w_atD, look_d, List.any_cons, List.any_nil, isT, tyN, String.reduceBEq, Bool.or_false, Bool.false_or, Bool.true_or, Bool.or_true, Bool.and_false, Bool.false_and, Bool.true_and, Bool.and_true, beq_self_eq_true, isNo, q_is, q_isnot, q_eqB, q_neB, q_eqS, q_neS, w_lc, wipeR, gsN, zipD_len, enumD_len, rng_len, Option.isSome_some, Int.zero_add, viewL, viewS, w_forN, w_forC, kFor_nx, kFor_ct, kFor_bk, kFor_rt, x_lcD, x_jSq, kSq, x_jZp, jZ0_T, jZ0_L, kR1_eq, kR2_eq, kEn_eq, kZp_eq, kZp_T, x_iR1, x_iR2, x_iEn, x_iZp, x_iSq, it_L, it_T, x_slL, q_slS, q_listD, q_listN, q_listNT, q_listDT, q_tupL, q_tupT, PyData.list.injEq, PyData.tuple.injEq, w_frzM, exists_eq, exists_eq', q_gTu2, q_gTu3, Int.reducePow, q_intB, q_mkT0, q_mkT1, q_mkT2, q_mkT3, q_alD0, q_alD1, q_alD2, q_alD3, q_alD4, alloc_N, Int.reduceLT, Int.reduceLE, Nat.reduceLT, Nat.reduceLeDiff, Int.reduceToNat, or_true, true_or, Fl.rt.injEq, Val.d.injEq, Bool.not_true, Bool.not_false, same_cell hc6 hlen, q_lenC hc6', x_strA (ht.mono (by decide) (by decide)) rfl, track_q hc6 hnn hlen, hnr, isB, hc6', q_ixC hc6', hlast, q_append hc6' hz, e4]
    refine ⟨.inl ⟨by omega, by omega⟩, ?_⟩
    simp only [w_seq, w_nil, w_ret, w_expr, w_asg, w_if, x_par, kPar_eq, Bool.false_xor, Bool.true_xor, w_for, w_c, w_bin, w_aNil, w_aCons, w_cb, w_call, w_tst, w_not, w_and, w_or, w_eif, w_frzE, x_eAnd, x_eOr, bif2_d, w_eNot, w_eNeg, x_chain, w_mt, w_isi, w_lst, w_tup, w_eSl, w_oSo, w_oNo, eVar, wp_some, wp_bnd, wp_map, wpS_some, bnd_some, kSeq_nx, kSeq_rt, kSeq_bk, kSeq_ct, q_addI, q_sub, q_lt, q_gt, q_ge, q_le, q_eqI, q_neI, q_abs, q_max, q_min, q_intI, q_intB, q_lenL, q_lenT, q_ixL, q_ixT, q_gN, q_gsNil, w_gsCons, w_gSub2, q_frzD, List.getElem?_cons_zero, List.getElem?_cons_succ, List.set_cons_zero, List.set_cons_succ, List.length_cons, List.length_nil, if_true, Option.map_some, decide_eq_true_eq, decide_eq_false_iff_not, decide_true, decide_false, Bool.false_eq_true, if_false, forall_const, true_implies, false_implies, and_true, true_and, reduceIte, reduceCtorEq, List.length_map, w_mulI, w_modI, w_divI, w_divmod, w_pow, at_0, at_1, at_2, Option.some.injEq, exists_eq_left', exists_eq_left, false_and, or_false, PyData.int.injEq, wp_none, wpS_none, imp_false, Decidable.not_not, sizeLine_eq, Nat.reduceAdd, not_true_eq_false, not_false_eq_true, wp_ite, w_atD, look_d, List.any_cons, List.any_nil, isT, tyN, String.reduceBEq, Bool.or_false, Bool.false_or, Bool.true_or, Bool.or_true, Bool.and_false, Bool.false_and, Bool.true_and, Bool.and_true, beq_self_eq_true, isNo, q_is, q_isnot, q_eqB, q_neB, q_eqS, q_neS, w_lc, wipeR, gsN, zipD_len, enumD_len, rng_len, Option.isSome_some, Int.zero_add, viewL, viewS, w_forN, w_forC, kFor_nx, kFor_ct, kFor_bk, kFor_rt, x_lcD, x_jSq, kSq, x_jZp, jZ0_T, jZ0_L, kR1_eq, kR2_eq, kEn_eq, kZp_eq, kZp_T, x_iR1, x_iR2, x_iEn, x_iZp, x_iSq, it_L, it_T, x_slL, q_slS, q_listD, q_listN, q_listNT, q_listDT, q_tupL, q_tupT, PyData.list.injEq, PyData.tuple.injEq, w_frzM, exists_eq, exists_eq', q_gTu2, q_gTu3, Int.reducePow, q_intB, q_mkT0, q_mkT1, q_mkT2, q_mkT3, q_alD0, q_alD1, q_alD2, q_alD3, q_alD4, alloc_N, Int.reduceLT, Int.reduceLE, Nat.reduceLT, Nat.reduceLeDiff, Int.reduceToNat, or_true, true_or, Fl.rt.injEq, Val.d.injEq, Bool.not_true, Bool.not_false, hfr, track_d (ns := tr ++ [b + 2]) (by simp) hl2, hnb, isB]
    rw [hI]
    exact ⟨_, _, _, _, _, rfl, (g6.setN g5.len hb.lt _).setN g5.len hb.lt _⟩
  · intro ρ S5 h
    rw [hI] at h
    obtain ⟨u5, u6, u8, u9, u10, rfl, g5⟩ := h
    simp only [w_seq, w_nil, w_ret, w_expr, w_asg, w_if, x_par, kPar_eq, Bool.false_xor, Bool.true_xor, w_for, w_c, w_bin, w_aNil, w_aCons, w_cb, w_call, w_tst, w_not, w_and, w_or, w_eif, w_frzE, x_eAnd, x_eOr, bif2_d, w_eNot, w_eNeg, x_chain, w_mt, w_isi, w_lst, w_tup, w_eSl, w_oSo, w_oNo, eVar, wp_some, wp_bnd, wp_map, wpS_some, bnd_some, kSeq_nx, kSeq_rt, kSeq_bk, kSeq_ct, q_addI, q_sub, q_lt, q_gt, q_ge, q_le, q_eqI, q_neI, q_abs, q_max, q_min, q_intI, q_intB, q_lenL, q_lenT, q_ixL, q_ixT, q_gN, q_gsNil, w_gsCons, w_gSub2, q_frzD, List.getElem?_cons_zero, List.getElem?_cons_succ, List.set_cons_zero, List.set_cons_succ, List.length_cons, List.length_nil, if_true, Option.map_some, decide_eq_true_eq, decide_eq_false_iff_not, decide_true, decide_false, Bool.false_eq_true, if_false, forall_const, true_implies, false_implies, and_true, true_and, reduceIte, reduceCtorEq, List.length_map, w_mulI, w_modI, w_divI, w_divmod, w_pow, at_0, at_1, at_2, Option.some.injEq, exists_eq_left', exists_eq_left, false_and, or_false, PyData.int.injEq, wp_none, wpS_none, imp_false, Decidable.not_not, sizeLine_eq, Nat.reduceAdd, not_true_eq_false, not_false_eq_true, wp_ite, w_atD, look_d, List.any_cons, List.any_nil, isT, tyN, String.reduceBEq, Bool.or_false, Bool.false_or, Bool.true_or, Bool.or_true, Bool.and_false, Bool.false_and, Bool.true_and, Bool.and_true, beq_self_eq_true, isNo, q_is, q_isnot, q_eqB, q_neB, q_eqS, q_neS, w_lc, wipeR, gsN, zipD_len, enumD_len, rng_len, Option.isSome_some, Int.zero_add, viewL, viewS, w_forN, w_forC, kFor_nx, kFor_ct, kFor_bk, kFor_rt, x_lcD, x_jSq, kSq, x_jZp, jZ0_T, jZ0_L, kR1_eq, kR2_eq, kEn_eq, kZp_eq, kZp_T, x_iR1, x_iR2, x_iEn, x_iZp, x_iSq, it_L, it_T, x_slL, q_slS, q_listD, q_listN, q_listNT, q_listDT, q_tupL, q_tupT, PyData.list.injEq, PyData.tuple.injEq, w_frzM, exists_eq, exists_eq', q_gTu2, q_gTu3, Int.reducePow, q_intB, q_mkT0, q_mkT1, q_mkT2, q_mkT3, q_alD0, q_alD1, q_alD2, q_alD3, q_alD4, alloc_N, Int.reduceLT, Int.reduceLE, Nat.reduceLT, Nat.reduceLeDiff, Int.reduceToNat, or_true, true_or, Fl.rt.injEq, Val.d.injEq, Bool.not_true, Bool.not_false]
    exact g5.mono (by omega)

end QW

namespace QW
open PySem PySem.Spec PyProof.Rows L2 QL
theorem law_true : ∀ ns : List Int, ns.length ≤ 63 → ∃ S', p_law [.s ns] [] = some (.d (.bool true), S') := by
  intro ns _
  have key : wp (p_law [.s ns] []) fun r S' => ∃ x, r = .d x ∧ S' = [] ∧ x = .bool true := by
    unfold p_law
    refine w_fnP ?_
    show wpS (f_law [some (.s ns), none, none] []) _
    unfold f_law
    (try simp only [w_nil, w_ret, w_expr, w_asg, x_par, kPar_eq, Bool.false_xor, Bool.true_xor, w_for, w_c, w_bin, w_aNil, w_aCons, w_cb, w_call, w_tst, w_not, w_and, w_or, w_eif, w_frzE, x_eAnd, x_eOr, bif2_d, w_eNot, w_eNeg, x_chain, w_mt, w_isi, w_lst, w_tup, w_eSl, w_oSo, w_oNo, eVar, wp_some, wp_bnd, wp_map, wpS_some, bnd_some, kSeq_nx, kSeq_rt, kSeq_bk, kSeq_ct, q_addI, q_sub, q_lt, q_gt, q_ge, q_le, q_eqI, q_neI, q_abs, q_max, q_min, q_intI, q_intB, q_lenL, q_lenT, q_ixL, q_ixT, q_gN, q_gsNil, w_gsCons, w_gSub2, q_frzD, List.getElem?_cons_zero, List.getElem?_cons_succ, List.set_cons_zero, List.set_cons_succ, List.length_cons, List.length_nil, if_true, Option.map_some, decide_eq_true_eq, decide_eq_false_iff_not, decide_true, decide_false, Bool.false_eq_true, if_false, forall_const, true_implies, false_implies, and_true, true_and, reduceIte, reduceCtorEq, List.length_map, w_mulI, w_modI, w_divI, w_divmod, w_pow, at_0, at_1, at_2, Option.some.injEq, exists_eq_left', exists_eq_left, false_and, or_false, PyData.int.injEq, wp_none, wpS_none, imp_false, Decidable.not_not, sizeLine_eq, Nat.reduceAdd, not_true_eq_false, not_false_eq_true, wp_ite, w_atD, look_d, List.any_cons, List.any_nil, isT, tyN, String.reduceBEq, Bool.or_false, Bool.false_or, Bool.true_or, Bool.or_true, Bool.and_false, Bool.false_and, Bool.true_and, Bool.and_true, beq_self_eq_true, isNo, q_is, q_isnot, q_eqB, q_neB, q_eqS, q_neS, w_lc, wipeR, gsN, zipD_len, enumD_len, rng_len, Option.isSome_some, Int.zero_add, viewL, viewS, w_forN, w_forC, kFor_nx, kFor_ct, kFor_bk, kFor_rt, x_lcD, x_jSq, kSq, x_jZp, jZ0_T, jZ0_L, kR1_eq, kR2_eq, kEn_eq, kZp_eq, kZp_T, x_iR1, x_iR2, x_iEn, x_iZp, x_iSq, it_L, it_T, x_slL, q_slS, q_listD, q_listN, q_listNT, q_listDT, q_tupL, q_tupT, PyData.list.injEq, PyData.tuple.injEq, w_frzM, exists_eq, exists_eq', q_gTu2, q_gTu3, Int.reducePow, q_intB, q_mkT0, q_mkT1, q_mkT2, q_mkT3, q_alD0, q_alD1, q_alD2, q_alD3, q_alD4, alloc_N, Int.reduceLT, Int.reduceLE, Nat.reduceLT, Nat.reduceLeDiff, Int.reduceToNat, or_true, true_or, Fl.rt.injEq, Val.d.injEq, Bool.not_true, Bool.not_false]); rw [w_seq]; (try simp only [w_nil, w_ret, w_expr, w_asg, x_par, kPar_eq, Bool.false_xor, Bool.true_xor, w_for, w_c, w_bin, w_aNil, w_aCons, w_cb, w_call, w_tst, w_not, w_and, w_or, w_eif, w_frzE, x_eAnd, x_eOr, bif2_d, w_eNot, w_eNeg, x_chain, w_mt, w_isi, w_lst, w_tup, w_eSl, w_oSo, w_oNo, eVar, wp_some, wp_bnd, wp_map, wpS_some, bnd_some, kSeq_nx, kSeq_rt, kSeq_bk, kSeq_ct, q_addI, q_sub, q_lt, q_gt, q_ge, q_le, q_eqI, q_neI, q_abs, q_max, q_min, q_intI, q_intB, q_lenL, q_lenT, q_ixL, q_ixT, q_gN, q_gsNil, w_gsCons, w_gSub2, q_frzD, List.getElem?_cons_zero, List.getElem?_cons_succ, List.set_cons_zero, List.set_cons_succ, List.length_cons, List.length_nil, if_true, Option.map_some, decide_eq_true_eq, decide_eq_false_iff_not, decide_true, decide_false, Bool.false_eq_true, if_false, forall_const, true_implies, false_implies, and_true, true_and, reduceIte, reduceCtorEq, List.length_map, w_mulI, w_modI, w_divI, w_divmod, w_pow, at_0, at_1, at_2, Option.some.injEq, exists_eq_left', exists_eq_left, false_and, or_false, PyData.int.injEq, wp_none, wpS_none, imp_false, Decidable.not_not, sizeLine_eq, Nat.reduceAdd, not_true_eq_false, not_false_eq_true, wp_ite, w_atD, look_d, List.any_cons, List.any_nil, isT, tyN, String.reduceBEq, Bool.or_false, Bool.false_or, Bool.true_or, Bool.or_true, Bool.and_false, Bool.false_and, Bool.true_and, Bool.and_true, beq_self_eq_true, isNo, q_is, q_isnot, q_eqB, q_neB, q_eqS, q_neS, w_lc, wipeR, gsN, zipD_len, enumD_len, rng_len, Option.isSome_some, Int.zero_add, viewL, viewS, w_forN, w_forC, kFor_nx, kFor_ct, kFor_bk, kFor_rt, x_lcD, x_jSq, kSq, x_jZp, jZ0_T, jZ0_L, kR1_eq, kR2_eq, kEn_eq, kZp_eq, kZp_T, x_iR1, x_iR2, x_iEn, x_iZp, x_iSq, it_L, it_T, x_slL, q_slS, q_listD, q_listN, q_listNT, q_listDT, q_tupL, q_tupT, PyData.list.injEq, PyData.tuple.injEq, w_frzM, exists_eq, exists_eq', q_gTu2, q_gTu3, Int.reducePow, q_intB, q_mkT0, q_mkT1, q_mkT2, q_mkT3, q_alD0, q_alD1, q_alD2, q_alD3, q_alD4, alloc_N, Int.reduceLT, Int.reduceLE, Nat.reduceLT, Nat.reduceLeDiff, Int.reduceToNat, or_true, true_or, Fl.rt.injEq, Val.d.injEq, Bool.not_true, Bool.not_false])
    refine wp_mono (folded_ok (by decide) (by decide)) ?_
    rintro r S1 ⟨_, rfl, rfl, ms, rfl, hl⟩
    have hl : ms.length ≤ 100 := by omega
    simp only [w_seq, w_nil, w_ret, w_expr, w_asg, w_if, x_par, kPar_eq, Bool.false_xor, Bool.true_xor, w_for, w_c, w_bin, w_aNil, w_aCons, w_cb, w_call, w_tst, w_not, w_and, w_or, w_eif, w_frzE, x_eAnd, x_eOr, bif2_d, w_eNot, w_eNeg, x_chain, w_mt, w_isi, w_lst, w_tup, w_eSl, w_oSo, w_oNo, eVar, wp_some, wp_bnd, wp_map, wpS_some, bnd_some, kSeq_nx, kSeq_rt, kSeq_bk, kSeq_ct, q_addI, q_sub, q_lt, q_gt, q_ge, q_le, q_eqI, q_neI, q_abs, q_max, q_min, q_intI, q_intB, q_lenL, q_lenT, q_ixL, q_ixT, q_gN, q_gsNil, w_gsCons, w_gSub2, q_frzD, List.getElem?_cons_zero, List.getElem?_cons_succ, List.set_cons_zero, List.set_cons_succ, List.length_cons, List.length_nil, if_true, Option.map_some, decide_eq_true_eq, decide_eq_false_iff_not, decide_true, decide_false, Bool.false_eq_true, if_false, forall_const, true_implies, false_implies, and_true, true_and, reduceIte, reduceCtorEq, List.length_map, w_mulI, w_modI, w_divI, w_divmod, w_pow, at_0, at_1, at_2, Option.some.injEq, exists_eq_left', exists_eq_left, false_and, or_false, PyData.int.injEq, wp_none, wpS_none, imp_false, Decidable.not_not, sizeLine_eq, Nat.reduceAdd, not_true_eq_false, not_false_eq_true, wp_ite, w_atD, look_d, List.any_cons, List.any_nil, isT, tyN, String.reduceBEq, Bool.or_false, Bool.false_or, Bool.true_or, Bool.or_true, Bool.and_false, Bool.false_and, Bool.true_and, Bool.and_true, beq_self_eq_true, isNo, q_is, q_isnot, q_eqB, q_neB, q_eqS, q_neS, w_lc, wipeR, gsN, zipD_len, enumD_len, rng_len, Option.isSome_some, Int.zero_add, viewL, viewS, w_forN, w_forC, kFor_nx, kFor_ct, kFor_bk, kFor_rt, x_lcD, x_jSq, kSq, x_jZp, jZ0_T, jZ0_L, kR1_eq, kR2_eq, kEn_eq, kZp_eq, kZp_T, x_iR1, x_iR2, x_iEn, x_iZp, x_iSq, it_L, it_T, x_slL, q_slS, q_listD, q_listN, q_listNT, q_listDT, q_tupL, q_tupT, PyData.list.injEq, PyData.tuple.injEq, w_frzM, exists_eq, exists_eq', q_gTu2, q_gTu3, Int.reducePow, q_intB, q_mkT0, q_mkT1, q_mkT2, q_mkT3, q_alD0, q_alD1, q_alD2, q_alD3, q_alD4, alloc_N, Int.reduceLT, Int.reduceLE, Nat.reduceLT, Nat.reduceLeDiff, Int.reduceToNat, or_true, true_or, Fl.rt.injEq, Val.d.injEq, Bool.not_true, Bool.not_false]
    refine ⟨by split <;> omega, by split <;> omega, ?_⟩
    obtain ⟨I, hI⟩ : ∃ X : Nat → List Val → Sto → Prop, X = fun (i : Nat) (acc : List Val) (S' : Sto) => acc = (List.replicate i (PyData.bool true)).map Val.d := ⟨_, rfl⟩
    refine w_lcL I (by rw [hI]; rfl) ?_ ?_
    · intro i d acc S2 hd h
      obtain ⟨hi, rfl⟩ := rng_get hd
      have hi : i < 101 := by split at hi <;> omega
      simp only [w_seq, w_nil, w_ret, w_expr, w_asg, w_if, x_par, kPar_eq, Bool.false_xor, Bool.true_xor, w_for, w_c, w_bin, w_aNil, w_aCons, w_cb, w_call, w_tst, w_not, w_and, w_or, w_eif, w_frzE, x_eAnd, x_eOr, bif2_d, w_eNot, w_eNeg, x_chain, w_mt, w_isi, w_lst, w_tup, w_eSl, w_oSo, w_oNo, eVar, wp_some, wp_bnd, wp_map, wpS_some, bnd_some, kSeq_nx, kSeq_rt, kSeq_bk, kSeq_ct, q_addI, q_sub, q_lt, q_gt, q_ge, q_le, q_eqI, q_neI, q_abs, q_max, q_min, q_intI, q_intB, q_lenL, q_lenT, q_ixL, q_ixT, q_gN, q_gsNil, w_gsCons, w_gSub2, q_frzD, List.getElem?_cons_zero, List.getElem?_cons_succ, List.set_cons_zero, List.set_cons_succ, List.length_cons, List.length_nil, if_true, Option.map_some, decide_eq_true_eq, decide_eq_false_iff_not, decide_true, decide_false, Bool.false_eq_true, if_false, forall_const, true_implies, false_implies, and_true, true_and, reduceIte, reduceCtorEq, List.length_map, w_mulI, w_modI, w_divI, w_divmod, w_pow, at_0, at_1, at_2, Option.some.injEq, exists_eq_left', exists_eq_left, false_and, or_false, PyData.int.injEq, wp_none, wpS_none, imp_false, Decidable.not_not, sizeLine_eq, Nat.reduceAdd, not_true_eq_false, not_false_eq_true, wp_ite, w_atD, look_d, List.any_cons, List.any_nil, isT, tyN, String.reduceBEq, Bool.or_false, Bool.false_or, Bool.true_or, Bool.or_true, Bool.and_false, Bool.false_and, Bool.true_and, Bool.and_true, beq_self_eq_true, isNo, q_is, q_isnot, q_eqB, q_neB, q_eqS, q_neS, w_lc, wipeR, gsN, zipD_len, enumD_len, rng_len, Option.isSome_some, Int.zero_add, viewL, viewS, w_forN, w_forC, kFor_nx, kFor_ct, kFor_bk, kFor_rt, x_lcD, x_jSq, kSq, x_jZp, jZ0_T, jZ0_L, kR1_eq, kR2_eq, kEn_eq, kZp_eq, kZp_T, x_iR1, x_iR2, x_iEn, x_iZp, x_iSq, it_L, it_T, x_slL, q_slS, q_listD, q_listN, q_listNT, q_listDT, q_tupL, q_tupT, PyData.list.injEq, PyData.tuple.injEq, w_frzM, exists_eq, exists_eq', q_gTu2, q_gTu3, Int.reducePow, q_intB, q_mkT0, q_mkT1, q_mkT2, q_mkT3, q_alD0, q_alD1, q_alD2, q_alD3, q_alD4, alloc_N, Int.reduceLT, Int.reduceLE, Nat.reduceLT, Nat.reduceLeDiff, Int.reduceToNat, or_true, true_or, Fl.rt.injEq, Val.d.injEq, Bool.not_true, Bool.not_false, fYes]
      refine wp_mono (box_ok (by omega) (by omega)) ?_
      rintro r S3 ⟨rfl, ds, e, hb⟩
      refine wp_mono (right_ok hb (by decide)) ?_
      rintro r S4 ⟨_, rfl, g, rfl⟩
      rw [hI] at h ⊢
      simp only [h, List.replicate_succ', List.map_append]
      rfl
    · intro acc S2 h
      rw [hI] at h
      simp only [h]
      rw [alloc_D, wp_some]
      rw [q_allT (fun d hd => (List.mem_replicate.mp hd).2), wp_some]
      exact ⟨_, rfl, ⟨Nat.zero_le _, fun j hj => absurd hj (Nat.not_lt_zero _)⟩, rfl⟩
  obtain ⟨r, S', e, x, rfl, _, rfl⟩ := key
  exact ⟨S', e⟩

end QW

open PySem PySem.W PyProof.Rows
set_option maxHeartbeats 0 in
theorem PySem.Challenge.cw_pickboard_k46_tracks_tick_by_tick_holds : PySem.Challenge.rw_pickboard_k46_tracks_tick_by_tick.Holds := by
  w_on; o_law; k_head; (case hw => w_witness2)
  k_fill
  refine QL.walk_q (l := PySem.Challenge.rw_pickboard_k46_tracks_tick_by_tick) (k := 15) (φ := QW.p_law) rfl rfl ⟨rfl, by decide, by decide⟩ (fun w h Y => PySem.W.kIn_of Y) ?D QW.law_true
  case D =>
    intro w mg h KX G base _ _
    refine' QW.all_ok KX G ?qq_g0 ?qq_l0 ?qq_c0 ?qq_k0 ?qq_g1 ?qq_l1 ?qq_c1 ?qq_k1 ?qq_g2 ?qq_l2 ?qq_c2 ?qq_k2 ?qq_g3 ?qq_l3 ?qq_c3 ?qq_k3 ?qq_g4 ?qq_l4 ?qq_c4 ?qq_k4 ?qq_g5 ?qq_l5 ?qq_c5 ?qq_k5 ?qq_g6 ?qq_l6 ?qq_c6 ?qq_k6 ?qq_g7 ?qq_l7 ?qq_c7 ?qq_k7 ?qq_g8 ?qq_l8 ?qq_c8 ?qq_k8 ?qq_g9 ?qq_l9 ?qq_c9 ?qq_k9 ?qq_g10 ?qq_l10 ?qq_c10 ?qq_k10 ?qq_g11 ?qq_l11 ?qq_c11 ?qq_k11 ?qq_g12 ?qq_l12 ?qq_c12 ?qq_k12 ?qq_g13 ?qq_l13 ?qq_c13 ?qq_k13 ?qq_g14 ?qq_l14 ?qq_c14 ?qq_k14 ?qq_g15 ?qq_l15 ?qq_c15 ?qq_k15 ?qq_z_abs ?qq_z_all ?qq_z_bool ?qq_z_divmod ?qq_z_enumerate ?qq_z_int ?qq_z_isinstance ?qq_z_len ?qq_z_list ?qq_z_max ?qq_z_min ?qq_z_range ?qq_z_str ?qq_z_sum ?qq_z_tuple ?qq_z_zip
    (case qq_g0 => k_is)
    (case qq_l0 => k_is)
    (case qq_c0 => k_is)
    (case qq_k0 => k_is)
    (case qq_g1 => k_is)
    (case qq_l1 => k_is)
    (case qq_c1 => k_is)
    (case qq_k1 => k_is)
    (case qq_g2 => k_is)
    (case qq_l2 => k_is)
    (case qq_c2 => k_is)
    (case qq_k2 => k_is)
    (case qq_g3 => k_is)
    (case qq_l3 => k_is)
    (case qq_c3 => k_is)
    (case qq_k3 => k_is)
    (case qq_g4 => k_is)
    (case qq_l4 => k_is)
    (case qq_c4 => k_is)
    (case qq_k4 => k_is)
    (case qq_g5 => k_is)
    (case qq_l5 => k_is)
    (case qq_c5 => k_is)
    (case qq_k5 => k_is)
    (case qq_g6 => k_is)
    (case qq_l6 => k_is)
    (case qq_c6 => k_is)
    (case qq_k6 => k_is)
    (case qq_g7 => k_is)
    (case qq_l7 => k_is)
    (case qq_c7 => k_is)
    (case qq_k7 => k_is)
    (case qq_g8 => k_is)
    (case qq_l8 => k_is)
    (case qq_c8 => k_is)
    (case qq_k8 => k_is)
    (case qq_g9 => k_is)
    (case qq_l9 => k_is)
    (case qq_c9 => k_is)
    (case qq_k9 => k_is)
    (case qq_g10 => k_is)
    (case qq_l10 => k_is)
    (case qq_c10 => k_is)
    (case qq_k10 => k_is)
    (case qq_g11 => k_is)
    (case qq_l11 => k_is)
    (case qq_c11 => k_is)
    (case qq_k11 => k_is)
    (case qq_g12 => k_is)
    (case qq_l12 => k_is)
    (case qq_c12 => k_is)
    (case qq_k12 => k_is)
    (case qq_g13 => k_is)
    (case qq_l13 => k_is)
    (case qq_c13 => k_is)
    (case qq_k13 => k_is)
    (case qq_g14 => k_is)
    (case qq_l14 => k_is)
    (case qq_c14 => k_is)
    (case qq_k14 => k_is)
    (case qq_g15 => k_is)
    (case qq_l15 => k_is)
    (case qq_c15 => k_is)
    (case qq_k15 => k_is)
    (case qq_z_abs => k_is)
    (case qq_z_all => k_is)
    (case qq_z_bool => k_is)
    (case qq_z_divmod => k_is)
    (case qq_z_enumerate => k_is)
    (case qq_z_int => k_is)
    (case qq_z_isinstance => k_is)
    (case qq_z_len => k_is)
    (case qq_z_list => k_is)
    (case qq_z_max => k_is)
    (case qq_z_min => k_is)
    (case qq_z_range => k_is)
    (case qq_z_str => k_is)
    (case qq_z_sum => k_is)
    (case qq_z_tuple => k_is)
    (case qq_z_zip => k_is)
