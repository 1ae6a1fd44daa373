import PyProof.Rows.All
import HandS.ForMost
import HandS.IsInst
import HandS.Zip
import HandS.Flow
import HandS.More
import HandS.Conv
import HandS.TupAny
import KE.DataEq
import KE.DataFind
import KE.DataAny
import PyProof.Rows.ReprR
import KE.GoesEnum
import HandS.SortInts
import HandS.Deep
import HandS.Style
import HandS.Rev
import HandS.RevRange
import KE.SortData
import PyProof.TupleOfSeq
import PyProof.DictUpdate
import HandS.TupLen
import KE.KDictSum
import PyProof.ReprLen
import HandS.SetFor
import HandS.SetIn
import HandS.Strs
import PyProof.CallFns
import PyProof.CallStr
import PyProof.StrOps2
import PyProof.ReprRoads
import KE.KDictZip
import HandS.ListItems
import HandS.SetKeys
import HandS.Small
import HandS.TupMul
import HandS.SortKw
import PySem.Challenge.RW_pickboard_k31_matched_least
set_option Elab.async false
set_option linter.all false
set_option maxRecDepth 100000
set_option maxHeartbeats 4000000
namespace QL
open PySem PySem.Spec PyProof.Rows L2

/-! ### pairs of lists -/
section
variable {α β : Type} {G G' : α → β → Prop}
theorem pr_len : ∀ {xs : List α} {ys : List β}, Paired G xs ys → xs.length = ys.length
  | _, _, .nil => rfl
  | _, _, .cons _ t => congrArg (· + 1) (pr_len t)
theorem pr_get : ∀ {xs : List α} {ys : List β} {i : Nat} {x : α}, Paired G xs ys → xs[i]? = some x → ∃ y, ys[i]? = some y ∧ G x y
  | _, _, _, _, .nil, e => by simp at e
  | _, _, 0, _, .cons r _, e => by simp at e; subst e; exact ⟨_, rfl, r⟩
  | _, _, i + 1, _, .cons _ t, e => by
    obtain ⟨y, h1, h2⟩ := pr_get (i := i) t (by simpa using e)
    exact ⟨y, by simpa using h1, h2⟩
theorem pr_get' : ∀ {xs : List α} {ys : List β} {i : Nat} {y : β}, Paired G xs ys → ys[i]? = some y → ∃ x, xs[i]? = some x ∧ G x y
  | _, _, _, _, .nil, e => by simp at e
  | _, _, 0, _, .cons r _, e => by simp at e; subst e; exact ⟨_, rfl, r⟩
  | _, _, i + 1, _, .cons _ t, e => by
    obtain ⟨y, h1, h2⟩ := pr_get' (i := i) t (by simpa using e)
    exact ⟨y, by simpa using h1, h2⟩
theorem pr_mono (h : ∀ a b, G a b → G' a b) : ∀ {xs : List α} {ys : List β}, Paired G xs ys → Paired G' xs ys
  | _, _, .nil => .nil
  | _, _, .cons r t => .cons (h _ _ r) (pr_mono h t)
theorem pr_append : ∀ {xs xs' : List α} {ys ys' : List β}, Paired G xs ys → Paired G xs' ys' → Paired G (xs ++ xs') (ys ++ ys')
  | _, _, _, _, .nil, s => s
  | _, _, _, _, .cons r t, s => .cons r (pr_append t s)
theorem pr_take : ∀ {xs : List α} {ys : List β} (n : Nat), Paired G xs ys → Paired G (xs.take n) (ys.take n)
  | _, _, 0, _ => .nil
  | _, _, _ + 1, .nil => .nil
  | _, _, n + 1, .cons r t => .cons r (pr_take n t)
theorem pr_drop : ∀ {xs : List α} {ys : List β} (n : Nat), Paired G xs ys → Paired G (xs.drop n) (ys.drop n)
  | _, _, 0, r => r
  | _, _, _ + 1, .nil => .nil
  | _, _, n + 1, .cons _ t => pr_drop n t
theorem pr_set {x : α} {y : β} (r : G x y) : ∀ {xs : List α} {ys : List β} (i : Nat), Paired G xs ys → Paired G (xs.set i x) (ys.set i y)
  | _, _, _, .nil => .nil
  | _, _, 0, .cons _ t => .cons r t
  | _, _, i + 1, .cons q t => .cons q (pr_set r i t)
theorem pr_reverse : ∀ {xs : List α} {ys : List β}, Paired G xs ys → Paired G xs.reverse ys.reverse
  | _, _, .nil => .nil
  | _, _, .cons r t => by
    rw [List.reverse_cons, List.reverse_cons]
    exact pr_append (pr_reverse t) (.cons r .nil)
theorem pr_erase : ∀ {xs : List α} {ys : List β} (i : Nat), Paired G xs ys → Paired G (xs.eraseIdx i) (ys.eraseIdx i)
  | _, _, _, .nil => .nil
  | _, _, 0, .cons _ t => t
  | _, _, i + 1, .cons q t => .cons q (pr_erase i t)
theorem pr_dropLast {xs : List α} {ys : List β} (h : Paired G xs ys) : Paired G xs.dropLast ys.dropLast := by
  rw [List.dropLast_eq_take, List.dropLast_eq_take, pr_len h]
  exact pr_take _ h
theorem pr_nil_iff {xs : List α} {ys : List β} (h : Paired G xs ys) : xs = [] ↔ ys = [] := by
  cases h with
  | nil => simp
  | cons _ _ => simp
theorem pr_map {γ : Type} {R : γ → β → Prop} {f : γ → α} (h : ∀ c b, R c b → G (f c) b) : ∀ {xs : List γ} {ys : List β}, Paired R xs ys → Paired G (xs.map f) ys
  | _, _, .nil => .nil
  | _, _, .cons r t => .cons (h _ _ r) (pr_map h t)
theorem pr_unmap {γ : Type} {R : γ → β → Prop} {f : γ → α} (h : ∀ c b, G (f c) b → R c b) : ∀ {xs : List γ} {ys : List β}, Paired G (xs.map f) ys → Paired R xs ys
  | [], _, .nil => .nil
  | _ :: _, _, .cons r t => .cons (h _ _ r) (pr_unmap h t)
end

/-! ### data held at a value -/
mutual
def Rp (K : PySem.W.Frag) (F : Hp) : PyData → V → Prop
  | .none, v => v = .non
  | .bool b, v => v = .bl b
  | .int i, v => v = .int i
  | .str x, v => v = .str x
  | .list ds, v => ∃ a vs, v = .ref a ∧ F a = some (.lst vs) ∧ RpA K F ds vs
  | .tuple ds, v => ∃ a vs, v = .ref a ∧ F a = some (.tup vs) ∧ RpA K F ds vs
  | .dict _, _ => False
def RpA (K : PySem.W.Frag) (F : Hp) : List PyData → List V → Prop
  | [], vs => vs = []
  | d :: ds, vs => ∃ v r, vs = v :: r ∧ Rp K F d v ∧ RpA K F ds r
end
section
variable {K : PySem.W.Frag} {F F' H : Hp}
theorem same_t {a : Addr} {xs : List V} (e : Same F F') (h : F a = some (.tup xs)) : SqT K F' a xs := .of (e _ _ h)
theorem same_q {a : Addr} {xs : List V} (e : Same F F') (h : SqT K F a xs) : SqT K F' a xs := by
  rcases h with (h | ⟨o, h⟩) | h
  · exact .inl (.inl (e _ _ h))
  · exact .inl (.inr ⟨o, e _ _ h⟩)
  · exact .inr h
theorem rpa_iff : ∀ {ds : List PyData} {vs : List V}, RpA K F ds vs ↔ Paired (Rp K F) ds vs
  | [], vs => by
    constructor
    · intro h
      have h' : vs = [] := by simpa [RpA] using h
      subst h'
      exact .nil
    · intro h
      cases h
      simp [RpA]
  | d :: ds, vs => by
    constructor
    · intro h
      have h' : ∃ v r, vs = v :: r ∧ Rp K F d v ∧ RpA K F ds r := by simpa [RpA] using h
      obtain ⟨v, r, rfl, h1, h2⟩ := h'
      exact .cons h1 (rpa_iff.mp h2)
    · intro h
      cases h with
      | cons h1 h2 =>
        simp only [RpA]
        exact ⟨_, _, rfl, h1, rpa_iff.mpr h2⟩
theorem rp_list {ds : List PyData} {v : V} : Rp K F (.list ds) v ↔ ∃ a vs, v = .ref a ∧ F a = some (.lst vs) ∧ Paired (Rp K F) ds vs := by
  simp only [Rp, rpa_iff]
theorem rp_tuple {ds : List PyData} {v : V} : Rp K F (.tuple ds) v ↔ ∃ a vs, v = .ref a ∧ F a = some (.tup vs) ∧ Paired (Rp K F) ds vs := by
  simp only [Rp, rpa_iff]
theorem rp_int {i : Int} {v : V} : Rp K F (.int i) v ↔ v = .int i := by simp only [Rp]
theorem rp_bool {i : Bool} {v : V} : Rp K F (.bool i) v ↔ v = .bl i := by simp only [Rp]
theorem rp_str {i : Str} {v : V} : Rp K F (.str i) v ↔ v = .str i := by simp only [Rp]
theorem rp_none {v : V} : Rp K F .none v ↔ v = .non := by simp only [Rp]
theorem rp_dict {x} {v : V} : Rp K F (.dict x) v ↔ False := by simp only [Rp]
mutual
theorem rp_mono (e : Same F F') : ∀ (d : PyData) (v : V), Rp K F d v → Rp K F' d v
  | .none, _, h => by simpa [Rp] using h
  | .bool _, _, h => by simpa [Rp] using h
  | .int _, _, h => by simpa [Rp] using h
  | .str _, _, h => by simpa [Rp] using h
  | .list ds, v, h => by
    simp only [Rp] at h ⊢
    obtain ⟨a, vs, rfl, h1, h2⟩ := h
    exact ⟨a, vs, rfl, e _ _ h1, rpa_mono e ds vs h2⟩
  | .tuple ds, v, h => by
    simp only [Rp] at h ⊢
    obtain ⟨a, vs, rfl, h1, h2⟩ := h
    exact ⟨a, vs, rfl, e _ _ h1, rpa_mono e ds vs h2⟩
  | .dict _, _, h => by simp [Rp] at h
theorem rpa_mono (e : Same F F') : ∀ (ds : List PyData) (vs : List V), RpA K F ds vs → RpA K F' ds vs
  | [], _, h => by simpa [RpA] using h
  | d :: ds, vs, h => by
    simp only [RpA] at h ⊢
    obtain ⟨v, r, rfl, h1, h2⟩ := h
    exact ⟨v, r, rfl, rp_mono e d v h1, rpa_mono e ds r h2⟩
end
mutual
theorem rp_dp : ∀ (d : PyData) (v : V), Rp K F d v → Dp K F v d
  | .none, _, h => by simp only [Rp] at h; subst h; exact .non
  | .bool _, _, h => by simp only [Rp] at h; subst h; exact .bl _
  | .int _, _, h => by simp only [Rp] at h; subst h; exact .int _
  | .str _, _, h => by simp only [Rp] at h; subst h; exact .str _
  | .list ds, v, h => by
    simp only [Rp] at h
    obtain ⟨a, vs, rfl, h1, h2⟩ := h
    exact .lst (.of h1) (rpa_dp ds vs h2)
  | .tuple ds, v, h => by
    simp only [Rp] at h
    obtain ⟨a, vs, rfl, h1, h2⟩ := h
    exact .tup (.of h1) (rpa_dp ds vs h2)
  | .dict _, _, h => by simp [Rp] at h
theorem rpa_dp : ∀ (ds : List PyData) (vs : List V), RpA K F ds vs → DpAll K F vs ds
  | [], _, h => by simp only [RpA] at h; subst h; exact .nil
  | d :: ds, vs, h => by
    simp only [RpA] at h
    obtain ⟨v, r, rfl, h1, h2⟩ := h
    exact .cons (rp_dp d v h1) (rpa_dp ds r h2)
end
mutual
theorem rp_plain : ∀ (d : PyData) (v : V), Rp K F d v → d.plain = true
  | .none, _, _ => rfl
  | .bool _, _, _ => rfl
  | .int _, _, _ => rfl
  | .str _, _, _ => rfl
  | .list ds, v, h => by
    simp only [Rp] at h
    obtain ⟨a, vs, rfl, h1, h2⟩ := h
    simp only [PyData.plain]
    exact rpa_plain ds vs h2
  | .tuple ds, v, h => by
    simp only [Rp] at h
    obtain ⟨a, vs, rfl, h1, h2⟩ := h
    simp only [PyData.plain]
    exact rpa_plain ds vs h2
  | .dict _, _, h => by simp [Rp] at h
theorem rpa_plain : ∀ (ds : List PyData) (vs : List V), RpA K F ds vs → PyData.plainAll ds = true
  | [], _, _ => rfl
  | d :: ds, vs, h => by
    simp only [RpA] at h
    obtain ⟨v, r, rfl, h1, h2⟩ := h
    simp only [PyData.plainAll, rp_plain d v h1, rpa_plain ds r h2, Bool.and_self]
end
end

/-! ### values, cells, the store -/
inductive Val where
  | d (x : PyData) | c (k : Nat) | s (ns : List Int) | t (xs : List Val)
inductive Cell where
  | lst (xs : List Val) | frz (x : PyData) | dk (kvs : List (L2.Key × Val)) | dt (kvs : List (List L2.Key × Val))
  /-- dicts that change no more; an instance of the class of that name -/
  | fk (kvs : List (L2.Key × Val)) | ft (kvs : List (List L2.Key × Val)) | ins (cn : Str) (fs : List (Str × Val))
abbrev Sto := List Cell
abbrev Rho := List (Option Val)

mutual
def RV (K : PySem.W.Frag) (F : Hp) (m : List Addr) : Val → V → Prop
  | .d x, v => Rp K F x v
  | .c k, v => ∃ a, m[k]? = some a ∧ v = .ref a
  | .s ns, v => ∃ a, v = .ref a ∧ SqL K F a (ns.map V.int)
  | .t xs, v => ∃ a vs, v = .ref a ∧ F a = some (.tup vs) ∧ RVA K F m xs vs
def RVA (K : PySem.W.Frag) (F : Hp) (m : List Addr) : List Val → List V → Prop
  | [], vs => vs = []
  | x :: xs, vs => ∃ v r, vs = v :: r ∧ RV K F m x v ∧ RVA K F m xs r
end
theorem rv_d {K : PySem.W.Frag} {F : Hp} {m : List Addr} {x : PyData} {v : V} : RV K F m (.d x) v ↔ Rp K F x v := by simp only [RV]
theorem rv_c {K : PySem.W.Frag} {F : Hp} {m : List Addr} {k : Nat} {v : V} : RV K F m (.c k) v ↔ ∃ a, m[k]? = some a ∧ v = .ref a := by simp only [RV]
theorem rv_s {K : PySem.W.Frag} {F : Hp} {m : List Addr} {ns : List Int} {v : V} : RV K F m (.s ns) v ↔ ∃ a, v = .ref a ∧ SqL K F a (ns.map V.int) := by simp only [RV]
theorem rva_iff {K : PySem.W.Frag} {F : Hp} {m : List Addr} : ∀ {xs : List Val} {vs : List V}, RVA K F m xs vs ↔ Paired (RV K F m) xs vs
  | [], vs => by
    constructor
    · intro h
      have h' : vs = [] := by simpa [RVA] using h
      subst h'
      exact .nil
    · intro h
      cases h
      simp [RVA]
  | d :: ds, vs => by
    constructor
    · intro h
      have h' : ∃ v r, vs = v :: r ∧ RV K F m d v ∧ RVA K F m ds r := by simpa [RVA] using h
      obtain ⟨v, r, rfl, h1, h2⟩ := h'
      exact .cons h1 (rva_iff.mp h2)
    · intro h
      cases h with
      | cons h1 h2 =>
        simp only [RVA]
        exact ⟨_, _, rfl, h1, rva_iff.mpr h2⟩
theorem rv_t {K : PySem.W.Frag} {F : Hp} {m : List Addr} {xs : List Val} {v : V} : RV K F m (.t xs) v ↔ ∃ a vs, v = .ref a ∧ F a = some (.tup vs) ∧ Paired (RV K F m) xs vs := by simp only [RV, rva_iff]
mutual
theorem rv_gen {K : PySem.W.Frag} {F F' : Hp} {m m' : List Addr} (e : Same F F') (p : ∀ (k : Nat) (a : Addr), m[k]? = some a → m'[k]? = some a) : ∀ (x : Val) (v : V), RV K F m x v → RV K F' m' x v
  | .d x, v, h => by
    rw [rv_d] at h ⊢
    exact rp_mono e x v h
  | .c k, v, h => by
    rw [rv_c] at h ⊢
    obtain ⟨b, q1, q2⟩ := h
    exact ⟨b, p _ _ q1, q2⟩
  | .s ns, v, h => by
    rw [rv_s] at h ⊢
    obtain ⟨b, q1, q2⟩ := h
    exact ⟨b, q1, e.seq q2⟩
  | .t xs, v, h => by
    simp only [RV] at h ⊢
    obtain ⟨a, vs, q1, q2, q3⟩ := h
    exact ⟨a, vs, q1, e _ _ q2, rva_gen e p xs vs q3⟩
theorem rva_gen {K : PySem.W.Frag} {F F' : Hp} {m m' : List Addr} (e : Same F F') (p : ∀ (k : Nat) (a : Addr), m[k]? = some a → m'[k]? = some a) : ∀ (xs : List Val) (vs : List V), RVA K F m xs vs → RVA K F' m' xs vs
  | [], vs, h => by simpa [RVA] using h
  | x :: xs, vs, h => by
    simp only [RVA] at h ⊢
    obtain ⟨v, r, q1, q2, q3⟩ := h
    exact ⟨v, r, q1, rv_gen e p x v q2, rva_gen e p xs r q3⟩
end
/-- an entry of a dict -/
def PV {κ : Type} (K : PySem.W.Frag) (F : Hp) (m : List Addr) (p : κ × Val) (q : κ × V) : Prop := p.1 = q.1 ∧ RV K F m p.2 q.2
def COk (K : PySem.W.Frag) (F H : Hp) (m : List Addr) (a : Addr) : Cell → Prop
  | .lst xs => F a = none ∧ ∃ vs, H a = some (.lst vs) ∧ Paired (RV K F m) xs vs
  | .dk kvs => F a = none ∧ ∃ ks, H a = some (.dK ks) ∧ Paired (PV K F m) kvs ks
  | .dt kvs => F a = none ∧ ∃ ks, H a = some (.dT ks) ∧ Paired (PV K F m) kvs ks
  | .frz x => Rp K F x (.ref a)
  | .fk kvs => ∃ o ks, F a = some (.frz o (.dK ks)) ∧ Paired (PV K F m) kvs ks
  | .ft kvs => ∃ o ks, F a = some (.frz o (.dT ks)) ∧ Paired (PV K F m) kvs ks
  | .ins cn fs => F a = none ∧ ∃ C dx vs, PySem.W.nsIn K mainGlobals cn = some (some (.ref C)) ∧ H a = some (.ins C dx vs) ∧ Paired (PV K F m) fs vs
structure SOk (K : PySem.W.Frag) (F : Hp) (m : List Addr) (H : Hp) (S : Sto) : Prop where
  ex : Same F H
  len : m.length = S.length
  nd : m.Nodup
  tr : ∀ a ∈ m, H a ≠ none
  cell : ∀ (k : Nat) (a : Addr) (c : Cell), m[k]? = some a → S[k]? = some c → COk K F H m a c
structure Stp (F : Hp) (m : List Addr) (H : Hp) (F' : Hp) (m' : List Addr) (H' : Hp) : Prop where
  ex : Same F F'
  pre : ∃ t, m' = m ++ t
  new : ∀ a ∈ m', a ∈ m ∨ H a = none
  newF : ∀ a, F a = none → F' a ≠ none → a ∈ m ∨ H a = none ∨ ∃ xs, H a = some (.tup xs)
  fr : ∀ a o, H a = some o → a ∉ m → H' a = some o
structure ROk (K : PySem.W.Frag) (F : Hp) (m : List Addr) (ρ : Rho) (σ : L2.St) : Prop where
  len : ρ.length = σ.length
  get : ∀ (i : Nat) (a : Val), ρ[i]? = some (some a) → ∃ v, σ[i]? = some (some v) ∧ RV K F m a v

section
variable {K : PySem.W.Frag} {F F' F1 F2 H H' H1 H2 : Hp} {m m' m1 m2 : List Addr} {S S' : Sto} {ρ : Rho} {σ : L2.St}
theorem Stp.refl : Stp F m H F m H := ⟨Same.refl _, ⟨[], by simp⟩, fun _ h => .inl h, fun _ h h' => absurd h h', fun _ _ h _ => h⟩
theorem Stp.trans (a : Stp F m H F1 m1 H1) (b : Stp F1 m1 H1 F2 m2 H2) : Stp F m H F2 m2 H2 := by
  have key : ∀ x, x ∈ m1 ∨ H1 x = none → x ∈ m ∨ H x = none := fun x h => by
    rcases h with h | h
    · exact a.new x h
    · by_cases hm : x ∈ m
      · exact .inl hm
      · right
        cases e : H x with
        | none => rfl
        | some o => rw [a.fr x o e hm] at h; cases h
  refine ⟨a.ex.trans b.ex, ?_, fun x h => key x (b.new x h), fun x h h' => ?_, fun x o h hm => ?_⟩
  · obtain ⟨t, rfl⟩ := a.pre
    obtain ⟨u, rfl⟩ := b.pre
    exact ⟨t ++ u, by simp⟩
  · by_cases h1 : F1 x = none
    · rcases b.newF x h1 h' with q | q | ⟨xs, q⟩
      · exact (key x (.inl q)).imp_right .inl
      · exact (key x (.inr q)).imp_right .inl
      · by_cases hm : x ∈ m
        · exact .inl hm
        · right
          cases e : H x with
          | none => exact .inl rfl
          | some o =>
            rw [a.fr x o e hm] at q
            cases q
            exact .inr ⟨xs, rfl⟩
    · exact a.newF x h h1
  · refine b.fr x o (a.fr x o h hm) fun h1 => ?_
    rcases a.new x h1 with q | q
    · exact hm q
    · rw [h] at q; cases q
theorem pre_get {k : Nat} {a : Addr} (p : ∃ t, m' = m ++ t) (h : m[k]? = some a) : m'[k]? = some a := by
  obtain ⟨t, rfl⟩ := p
  rw [List.getElem?_append_left (List.getElem?_eq_some_iff.mp h).1]
  exact h
theorem rv_mono (st : Stp F m H F' m' H') {a : Val} {v : V} (h : RV K F m a v) : RV K F' m' a v := rv_gen st.ex (fun _ _ q => pre_get st.pre q) a v h
theorem rv_int {i : Int} {v : V} : RV K F m (.d (.int i)) v ↔ v = .int i := rv_d.trans (rp_int (K := K) (F := F))
theorem rv_bool {i : Bool} {v : V} : RV K F m (.d (.bool i)) v ↔ v = .bl i := rv_d.trans (rp_bool (K := K) (F := F))
theorem rv_str {i : Str} {v : V} : RV K F m (.d (.str i)) v ↔ v = .str i := rv_d.trans (rp_str (K := K) (F := F))
theorem rv_none {v : V} : RV K F m (.d .none) v ↔ v = .non := rv_d.trans (rp_none (K := K) (F := F))
theorem rv_list {ds : List PyData} {v : V} : RV K F m (.d (.list ds)) v ↔ ∃ a vs, v = .ref a ∧ F a = some (.lst vs) ∧ Paired (Rp K F) ds vs := rv_d.trans (rp_list (K := K) (F := F))
theorem rv_tuple {ds : List PyData} {v : V} : RV K F m (.d (.tuple ds)) v ↔ ∃ a vs, v = .ref a ∧ F a = some (.tup vs) ∧ Paired (Rp K F) ds vs := rv_d.trans (rp_tuple (K := K) (F := F))
theorem rvs_mono (st : Stp F m H F' m' H') {as : List Val} {vs : List V} (h : Paired (RV K F m) as vs) : Paired (RV K F' m') as vs := pr_mono (fun _ _ => rv_mono st) h
theorem ro_mono (st : Stp F m H F' m' H') (h : ROk K F m ρ σ) : ROk K F' m' ρ σ := ⟨h.len, fun i a e => by
  obtain ⟨v, h1, h2⟩ := h.get i a e
  exact ⟨v, h1, rv_mono st h2⟩⟩
theorem ROk.set (h : ROk K F m ρ σ) {a : Val} {v : V} (r : RV K F m a v) (i : Nat) : ROk K F m (ρ.set i (some a)) (σ.set i (some v)) := by
  refine ⟨by simp [h.len], fun j b e => ?_⟩
  by_cases hj : i = j
  · subst hj
    rw [List.getElem?_set] at e
    simp only [if_true] at e
    split at e
    · rename_i hl
      cases e
      refine ⟨v, ?_, r⟩
      rw [List.getElem?_set_self (by rw [← h.len]; exact hl)]
    · cases e
  · rw [List.getElem?_set_ne hj] at e
    obtain ⟨u, h1, h2⟩ := h.get j b e
    exact ⟨u, by rw [List.getElem?_set_ne hj]; exact h1, h2⟩
theorem ROk.clr (h : ROk K F m ρ σ) (i : Nat) : ROk K F m (ρ.set i none) σ := by
  refine ⟨by simp [h.len], fun j b e => ?_⟩
  by_cases hj : i = j
  · subst hj
    rw [List.getElem?_set] at e
    simp only [if_true] at e
    split at e <;> cases e
  · rw [List.getElem?_set_ne hj] at e
    exact h.get j b e
theorem ROk.clr2 (h : ROk K F m ρ σ) (i : Nat) : ROk K F m (ρ.set i none) (σ.set i none) := by
  refine ⟨by simp [h.len], fun j b e => ?_⟩
  by_cases hj : i = j
  · subst hj
    rw [List.getElem?_set] at e
    simp only [if_true] at e
    split at e <;> cases e
  · rw [List.getElem?_set_ne hj] at e
    obtain ⟨u, h1, h2⟩ := h.get j b e
    exact ⟨u, by rw [List.getElem?_set_ne hj]; exact h1, h2⟩
theorem SOk.none (h : SOk K F m H S) {p : Addr} (e : H p = none) : F p = none ∧ p ∉ m := by
  constructor
  · cases q : F p with
    | none => rfl
    | some o => rw [h.ex p o q] at e; cases e
  · exact fun hm => h.tr p hm e
/-- what is known of a cell when the frozen part and the heap grow or change elsewhere -/
theorem rv_keep (e : Same F F') (p : ∃ t, m' = m ++ t) {x : Val} {v : V} (r : RV K F m x v) : RV K F' m' x v := rv_gen e (fun _ _ q => pre_get p q) x v r
theorem cok_keep {a : Addr} {c : Cell} (h : COk K F H m a c) (e : Same F F') (p : ∃ t, m' = m ++ t) (hn : F a = none → F' a = none) (hh : ∀ o, H a = some o → H' a = some o) : COk K F' H' m' a c := by
  cases c with
  | lst xs =>
    obtain ⟨h1, vs, h2, h3⟩ := h
    exact ⟨hn h1, vs, hh _ h2, pr_mono (fun x v r => rv_keep e p r) h3⟩
  | dk xs =>
    obtain ⟨h1, vs, h2, h3⟩ := h
    exact ⟨hn h1, vs, hh _ h2, pr_mono (fun x v r => ⟨r.1, rv_keep e p r.2⟩) h3⟩
  | dt xs =>
    obtain ⟨h1, vs, h2, h3⟩ := h
    exact ⟨hn h1, vs, hh _ h2, pr_mono (fun x v r => ⟨r.1, rv_keep e p r.2⟩) h3⟩
  | frz x => exact rp_mono e x _ h
  | fk xs =>
    obtain ⟨o, vs, h2, h3⟩ := h
    exact ⟨o, vs, e _ _ h2, pr_mono (fun x v r => ⟨r.1, rv_keep e p r.2⟩) h3⟩
  | ft xs =>
    obtain ⟨o, vs, h2, h3⟩ := h
    exact ⟨o, vs, e _ _ h2, pr_mono (fun x v r => ⟨r.1, rv_keep e p r.2⟩) h3⟩
  | ins cn xs =>
    obtain ⟨h1, C, dx, vs, h2, h3, h4⟩ := h
    exact ⟨hn h1, C, dx, vs, h2, hh _ h3, pr_mono (fun x v r => ⟨r.1, rv_keep e p r.2⟩) h4⟩
/-- a new list, a live cell -/
theorem al_NC (ok : SOk K F m H S) {p : Addr} {c : Cell} {o : HO} (hp : H p = none) (hv : F p = none → Stp F m H F (m ++ [p]) (upd H p o) → COk K F (upd H p o) (m ++ [p]) p c) :
    SOk K F (m ++ [p]) (upd H p o) (S ++ [c]) ∧ Stp F m H F (m ++ [p]) (upd H p o) ∧ RV K F (m ++ [p]) (.c S.length) (.ref p) := by
  obtain ⟨hF, hm⟩ := ok.none hp
  have st : Stp F m H F (m ++ [p]) (upd H p o) := by
    refine ⟨Same.refl _, ⟨[p], rfl⟩, fun a ha => ?_, fun _ h h' => absurd h h', fun a o2 h ha => ?_⟩
    · rcases List.mem_append.mp ha with q | q
      · exact .inl q
      · right
        rw [List.mem_singleton.mp q]; exact hp
    · rw [upd_ne (ne_of_none h hp)]; exact h
  refine ⟨⟨fun a o2 h => ?_, ?_, ?_, fun a ha => ?_, fun k a c2 h1 h2 => ?_⟩, st, p, ?_, rfl⟩
  · have hq := ok.ex a o2 h
    rw [upd_ne (ne_of_none hq hp)]; exact hq
  · simp [ok.len]
  · rw [List.nodup_append]
    refine ⟨ok.nd, by simp, fun a ha b hb => ?_⟩
    rw [List.mem_singleton.mp hb]
    intro e
    exact hm (e ▸ ha)
  · rcases List.mem_append.mp ha with q | q
    · have hne : a ≠ p := fun e => hm (e ▸ q)
      rw [upd_ne hne]; exact ok.tr a q
    · rw [List.mem_singleton.mp q, upd_same]; simp
  · by_cases hk : k < m.length
    · rw [List.getElem?_append_left hk] at h1
      rw [List.getElem?_append_left (by rw [← ok.len]; exact hk)] at h2
      have hne : a ≠ p := fun e => hm (e ▸ List.mem_of_getElem? h1)
      exact cok_keep (ok.cell k a c2 h1 h2) (Same.refl _) ⟨[p], rfl⟩ (fun q => q) fun vs q => by rw [upd_ne hne]; exact q
    · have ek : k = m.length := by
        have := (List.getElem?_eq_some_iff.mp h1).1
        simp at this
        omega
      subst ek
      rw [List.getElem?_append_right (Nat.le_refl _)] at h1
      simp at h1
      subst h1
      rw [ok.len, List.getElem?_append_right (Nat.le_refl _)] at h2
      simp at h2
      subst h2
      exact hv hF st
  · rw [← ok.len, List.getElem?_append_right (Nat.le_refl _)]; simp
theorem al_N (ok : SOk K F m H S) {p : Addr} {xs : List Val} {vs : List V} (hp : H p = none) (hv : Paired (RV K F m) xs vs) :
    SOk K F (m ++ [p]) (upd H p (.lst vs)) (S ++ [.lst xs]) ∧ Stp F m H F (m ++ [p]) (upd H p (.lst vs)) ∧ RV K F (m ++ [p]) (.c S.length) (.ref p) :=
  al_NC ok hp fun hF st => ⟨hF, vs, upd_same, rvs_mono st hv⟩
/-- a new object that is never to change -/
theorem al_F (ok : SOk K F m H S) {p : Addr} {o : HO} (hp : H p = none) :
    SOk K (upd F p o) m (upd H p o) S ∧ Stp F m H (upd F p o) m (upd H p o) := by
  obtain ⟨hF, hm⟩ := ok.none hp
  have ex : Same F (upd F p o) := fun a u h => by rw [upd_ne (ne_of_none h hF)]; exact h
  refine ⟨⟨fun a u h => ?_, ok.len, ok.nd, fun a ha => ?_, fun k a c h1 h2 => ?_⟩, ⟨ex, ⟨[], by simp⟩, fun a ha => .inl ha, fun a h h' => ?_, fun a u h ha => ?_⟩⟩
  · by_cases e : a = p
    · subst e; rw [upd_same] at h ⊢; exact h
    · rw [upd_ne e] at h ⊢; exact ok.ex a u h
  · have hne : a ≠ p := fun e => hm (e ▸ ha)
    rw [upd_ne hne]; exact ok.tr a ha
  · have hne : a ≠ p := fun e => hm (e ▸ List.mem_of_getElem? h1)
    exact cok_keep (ok.cell k a c h1 h2) ex ⟨[], by simp⟩ (fun q => by rw [upd_ne hne]; exact q) fun vs q => by rw [upd_ne hne]; exact q
  · by_cases e : a = p
    · subst e; exact .inr (.inl hp)
    · rw [upd_ne e] at h'; exact absurd h h'
  · rw [upd_ne (ne_of_none h hp)]; exact h
/-- a live cell changed -/
theorem al_MC (ok : SOk K F m H S) {k : Nat} {a : Addr} {c0 c : Cell} {o : HO} (hm : m[k]? = some a) (hS : S[k]? = some c0) (hF : F a = none) (hv : COk K F (upd H a o) m a c) :
    SOk K F m (upd H a o) (S.set k c) ∧ Stp F m H F m (upd H a o) := by
  have hmem := List.mem_of_getElem? hm
  refine ⟨⟨fun b o2 h => ?_, by simp [ok.len], ok.nd, fun b hb => ?_, fun j b c2 h1 h2 => ?_⟩, ⟨Same.refl _, ⟨[], by simp⟩, fun b hb => .inl hb, fun b h h' => absurd h h', fun b o2 h hb => ?_⟩⟩
  · have hne : b ≠ a := fun e => by rw [e, hF] at h; cases h
    rw [upd_ne hne]; exact ok.ex b o2 h
  · by_cases e : b = a
    · subst e; rw [upd_same]; simp
    · rw [upd_ne e]; exact ok.tr b hb
  · by_cases e : j = k
    · subst e
      rw [hm] at h1; cases h1
      rw [List.getElem?_set_self (List.getElem?_eq_some_iff.mp hS).1] at h2
      cases h2
      exact hv
    · rw [List.getElem?_set_ne (fun q => e q.symm)] at h2
      have hne : b ≠ a := fun q => by
        subst q
        exact e (nd_ix ok.nd h1 hm)
      exact cok_keep (ok.cell j b c2 h1 h2) (Same.refl _) ⟨[], by simp⟩ (fun q => q) fun vs q => by rw [upd_ne hne]; exact q
  · have hne : b ≠ a := fun e => hb (e ▸ hmem)
    rw [upd_ne hne]; exact h
theorem al_M (ok : SOk K F m H S) {k : Nat} {a : Addr} {xs : List Val} {ys : List Val} {vs : List V} (hm : m[k]? = some a) (hS : S[k]? = some (.lst xs)) (hv : Paired (RV K F m) ys vs) :
    SOk K F m (upd H a (.lst vs)) (S.set k (.lst ys)) ∧ Stp F m H F m (upd H a (.lst vs)) := by
  obtain ⟨hF, ws, hw, _⟩ := ok.cell k a _ hm hS
  exact al_MC ok hm hS hF ⟨hF, vs, upd_same, hv⟩
/-- a new object that the store does not know -/
theorem al_X (ok : SOk K F m H S) {p : Addr} {o : HO} (hp : H p = none) : Stp F m H F m (upd H p o) :=
  ⟨Same.refl _, ⟨[], by simp⟩, fun _ h => .inl h, fun _ h h' => absurd h h', fun a u h _ => by rw [upd_ne (ne_of_none h hp)]; exact h⟩
/-- an object that the store does not know is changed -/
theorem al_O (ok : SOk K F m H S) {p : Addr} {o : HO} (hF : F p = none) (hm : p ∉ m) : SOk K F m (upd H p o) S := by
  refine ⟨fun b u h => ?_, ok.len, ok.nd, fun b hb => ?_, fun j b c h1 h2 => ?_⟩
  · have hne : b ≠ p := fun e => by rw [e, hF] at h; cases h
    rw [upd_ne hne]; exact ok.ex b u h
  · have hne : b ≠ p := fun e => hm (e ▸ hb)
    rw [upd_ne hne]; exact ok.tr b hb
  · have hne : b ≠ p := fun e => hm (e ▸ List.mem_of_getElem? h1)
    exact cok_keep (ok.cell j b c h1 h2) (Same.refl _) ⟨[], by simp⟩ (fun q => q) fun vs q => by rw [upd_ne hne]; exact q
/-- an object that the store does not know comes to it as frozen -/
theorem al_P (ok : SOk K F m H S) {p : Addr} {o : HO} (hp : H p = some o) (hF : F p = none) (hm : p ∉ m) : SOk K (upd F p o) m H S := by
  have ex : Same F (upd F p o) := fun a u h => by rw [upd_ne (ne_of_none h hF)]; exact h
  refine ⟨fun a u h => ?_, ok.len, ok.nd, ok.tr, fun k a c h1 h2 => ?_⟩
  · by_cases e : a = p
    · subst e; rw [upd_same] at h; cases h; exact hp
    · rw [upd_ne e] at h; exact ok.ex a u h
  · have hne : a ≠ p := fun e => hm (e ▸ List.mem_of_getElem? h1)
    exact cok_keep (ok.cell k a c h1 h2) ex ⟨[], by simp⟩ (fun q => by rw [upd_ne hne]; exact q) fun vs q => q
/-- .. or as a live cell -/
theorem al_Q (ok : SOk K F m H S) {p : Addr} {xs : List Val} {vs : List V} (hp : H p = some (.lst vs)) (hF : F p = none) (hm : p ∉ m) (hv : Paired (RV K F m) xs vs) : SOk K F (m ++ [p]) H (S ++ [.lst xs]) ∧ RV K F (m ++ [p]) (.c S.length) (.ref p) := by
  refine ⟨⟨ok.ex, by simp [ok.len], ?_, fun a ha => ?_, fun k a c h1 h2 => ?_⟩, p, ?_, rfl⟩
  · rw [List.nodup_append]
    refine ⟨ok.nd, by simp, fun a ha b hb => ?_⟩
    rw [List.mem_singleton.mp hb]
    intro e
    exact hm (e ▸ ha)
  · rcases List.mem_append.mp ha with q | q
    · exact ok.tr a q
    · rw [List.mem_singleton.mp q, hp]; simp
  · have st : ∀ x v, RV K F m x v → RV K F (m ++ [p]) x v := fun x v r => rv_keep (Same.refl _) ⟨[p], rfl⟩ r
    by_cases hk : k < m.length
    · rw [List.getElem?_append_left hk] at h1
      rw [List.getElem?_append_left (by rw [← ok.len]; exact hk)] at h2
      exact cok_keep (ok.cell k a c h1 h2) (Same.refl _) ⟨[p], rfl⟩ (fun q => q) fun vs q => q
    · have ek : k = m.length := by
        have := (List.getElem?_eq_some_iff.mp h1).1
        simp at this
        omega
      subst ek
      rw [List.getElem?_append_right (Nat.le_refl _)] at h1
      simp at h1
      subst h1
      rw [ok.len, List.getElem?_append_right (Nat.le_refl _)] at h2
      simp at h2
      subst h2
      exact ⟨hF, vs, hp, pr_mono st hv⟩
  · rw [← ok.len, List.getElem?_append_right (Nat.le_refl _)]; simp
/-- a live cell becomes frozen -/
theorem al_Z (ok : SOk K F m H S) {k : Nat} {a : Addr} {xs : List Val} {ds : List PyData} {vs : List V} (hm : m[k]? = some a) (hS : S[k]? = some (.lst xs)) (hH : H a = some (.lst vs)) (hv : Paired (Rp K F) ds vs) :
    SOk K (upd F a (.lst vs)) m H (S.set k (.frz (.list ds))) ∧ Stp F m H (upd F a (.lst vs)) m H ∧ Rp K (upd F a (.lst vs)) (.list ds) (.ref a) := by
  obtain ⟨hF, ws, hw, _⟩ := ok.cell k a _ hm hS
  have hmem := List.mem_of_getElem? hm
  have ex : Same F (upd F a (.lst vs)) := fun b u h => by rw [upd_ne (ne_of_none h hF)]; exact h
  have hR : Rp K (upd F a (.lst vs)) (.list ds) (.ref a) := rp_list.mpr ⟨a, vs, rfl, upd_same, pr_mono (fun x v => rp_mono ex x v) hv⟩
  refine ⟨⟨fun b o h => ?_, by simp [ok.len], ok.nd, ok.tr, fun j b c h1 h2 => ?_⟩, ⟨ex, ⟨[], by simp⟩, fun b hb => .inl hb, fun b h h' => ?_, fun b o h hb => h⟩, hR⟩
  · by_cases e : b = a
    · subst e; rw [upd_same] at h; cases h; exact hH
    · rw [upd_ne e] at h; exact ok.ex b o h
  · by_cases e : j = k
    · subst e
      rw [hm] at h1; cases h1
      rw [List.getElem?_set_self (List.getElem?_eq_some_iff.mp hS).1] at h2
      cases h2
      exact hR
    · rw [List.getElem?_set_ne (fun q => e q.symm)] at h2
      have hne : b ≠ a := fun q => by
        subst q
        exact e (nd_ix ok.nd h1 hm)
      exact cok_keep (ok.cell j b c h1 h2) ex ⟨[], by simp⟩ (fun q => by rw [upd_ne hne]; exact q) fun vs q => q
  · by_cases e : b = a
    · subst e; exact .inl hmem
    · rw [upd_ne e] at h'; exact absurd h h'
end

/-! ### looks at a value -/
def mapO {α β : Type} (f : α → Option β) : List α → Option (List β)
  | [] => some []
  | a :: r => (f a).bind fun b => (mapO f r).map (b :: ·)
def unD : List Val → Option (List PyData) := mapO fun a => match a with | .d x => some x | _ => none
def peek : Nat → Sto → Val → Option PyData
  | _, _, .d x => some x
  | 0, _, .c _ => none
  | _, _, .s _ => none
  | 0, _, .t _ => none
  | n + 1, S, .t xs => (mapO (peek n S) xs).map PyData.tuple
  | n + 1, S, .c k => match S[k]? with
    | some (.frz x) => some x
    | some (.lst xs) => (mapO (peek n S) xs).map PyData.list
    | _ => none
/-- as data -/
def look (S : Sto) (a : Val) : Option PyData := peek 6 S a
/-- the items of a list -/
def viewS (S : Sto) : Val → Option (List Val)
  | .d (.list ds) => some (ds.map .d)
  | .c k => match S[k]? with
    | some (.lst xs) => some xs
    | some (.frz (.list ds)) => some (ds.map .d)
    | _ => none
  | _ => none
def viewL (S : Sto) : Val → Option (List Val)
  | .s ns => some (ns.map fun i => .d (.int i))
  | v => viewS S v
theorem viewS_d (S : Sto) (ds : List PyData) : viewS S (.d (.list ds)) = some (ds.map .d) := rfl
theorem viewS_c {S : Sto} {k : Nat} {xs : List Val} (h : S[k]? = some (.lst xs)) : viewS S (.c k) = some xs := by simp only [viewS, h]
theorem look_d (S : Sto) (x : PyData) : look S (.d x) = some x := rfl
theorem viewL_d (S : Sto) (ds : List PyData) : viewL S (.d (.list ds)) = some (ds.map .d) := rfl
theorem mapO_d {α : Type} {f : Val → Option α} {g : PyData → α} (h : ∀ x, f (.d x) = some (g x)) : ∀ ds : List PyData, mapO f (ds.map .d) = some (ds.map g)
  | [] => rfl
  | d :: ds => by
    rw [List.map_cons, mapO, h d, mapO_d h ds]
    rfl
theorem unD_d (ds : List PyData) : unD (ds.map .d) = some ds := by
  have := mapO_d (f := fun a => match a with | .d x => some x | _ => none) (g := id) (fun _ => rfl) ds
  rw [List.map_id] at this
  exact this
theorem peek_c {S : Sto} {k : Nat} {ds : List PyData} (n : Nat) (h : S[k]? = some (.lst (ds.map .d))) : peek (n + 1) S (.c k) = some (.list ds) := by
  have e : mapO (peek n S) (ds.map .d) = some ds := by
    have := mapO_d (f := peek n S) (g := id) (fun _ => by cases n <;> rfl) ds
    rw [List.map_id] at this
    exact this
  simp only [peek, h, e, Option.map]
theorem look_c {S : Sto} {k : Nat} {ds : List PyData} (h : S[k]? = some (.lst (ds.map .d))) : look S (.c k) = some (.list ds) := peek_c 5 h
theorem viewL_c {S : Sto} {k : Nat} {xs : List Val} (h : S[k]? = some (.lst xs)) : viewL S (.c k) = some xs := by simp only [viewL, viewS, h]
section
variable {K : PySem.W.Frag} {F F' F1 F2 H H' H1 H2 : Hp} {m m' m1 m2 : List Addr} {S S' : Sto} {ρ : Rho} {σ : L2.St}
theorem unD_ok : ∀ {xs : List Val} {ds : List PyData} {vs : List V}, unD xs = some ds → Paired (RV K F m) xs vs → Paired (Rp K F) ds vs
  | [], ds, _, h, .nil => by cases h; exact .nil
  | .d x :: xs, ds, _, h, .cons r t => by
    have h' : (unD xs).map (x :: ·) = some ds := h
    cases e : unD xs with
    | none => rw [e] at h'; cases h'
    | some bs => rw [e] at h'; cases h'; exact .cons r (unD_ok e t)
  | .c _ :: _, _, _, h, _ => by cases h
  | .s _ :: _, _, _, h, _ => by cases h
  | .t _ :: _, _, _, h, _ => by cases h
theorem mapO_ok {f : Val → Option PyData} (hf : ∀ a x v, f a = some x → RV K F m a v → Rp K H x v) : ∀ {xs : List Val} {ds : List PyData} {vs : List V}, mapO f xs = some ds → Paired (RV K F m) xs vs → Paired (Rp K H) ds vs
  | [], ds, _, h, .nil => by cases h; exact .nil
  | a :: xs, ds, _, h, .cons r t => by
    have h' : ((f a).bind fun b => (mapO f xs).map (b :: ·)) = some ds := h
    cases e1 : f a with
    | none => rw [e1] at h'; cases h'
    | some b =>
      rw [e1, Option.bind_some] at h'
      cases e : mapO f xs with
      | none => rw [e] at h'; cases h'
      | some bs => rw [e] at h'; cases h'; exact .cons (hf _ _ _ e1 r) (mapO_ok hf e t)
theorem peek_ok (ok : SOk K F m H S) : ∀ (n : Nat) (a : Val) (x : PyData) (v : V), peek n S a = some x → RV K F m a v → Rp K H x v
  | 0, .d _, x, v, h, r => by
    cases h; exact rp_mono ok.ex _ _ r
  | n + 1, .d _, x, v, h, r => by
    cases h; exact rp_mono ok.ex _ _ r
  | 0, .c _, _, _, h, _ => by cases h
  | 0, .s _, _, _, h, _ => by cases h
  | 0, .t _, _, _, h, _ => by cases h
  | _ + 1, .s _, _, _, h, _ => by cases h
  | n + 1, .t xs, x, v, h, r => by
    obtain ⟨a, vs, rfl, h1, h2⟩ := rv_t.mp r
    have h : (mapO (peek n S) xs).map PyData.tuple = some x := h
    cases e2 : mapO (peek n S) xs with
    | none => rw [e2] at h; cases h
    | some ds =>
      rw [e2] at h; cases h
      exact rp_tuple.mpr ⟨a, vs, rfl, ok.ex _ _ h1, mapO_ok (fun a x v => peek_ok ok n a x v) e2 h2⟩
  | n + 1, .c k, x, v, h, r => by
    obtain ⟨a, hm, rfl⟩ := r
    rw [peek] at h
    cases e : S[k]? with
    | none => rw [e] at h; cases h
    | some c =>
      rw [e] at h
      have hc := ok.cell k a c hm e
      cases c with
      | dk _ => cases h
      | dt _ => cases h
      | fk _ => cases h
      | ft _ => cases h
      | ins _ _ => cases h
      | frz y => cases h; exact rp_mono ok.ex _ _ hc
      | lst xs =>
        obtain ⟨_, vs, h2, h3⟩ := hc
        have h : (mapO (peek n S) xs).map PyData.list = some x := h
        cases e2 : mapO (peek n S) xs with
        | none => rw [e2] at h; cases h
        | some ds =>
          rw [e2] at h; cases h
          exact rp_list.mpr ⟨a, vs, rfl, h2, mapO_ok (fun a x v => peek_ok ok n a x v) e2 h3⟩
theorem look_ok (ok : SOk K F m H S) {a : Val} {x : PyData} {v : V} (h : look S a = some x) (r : RV K F m a v) : Rp K H x v := peek_ok ok 6 a x v h r
theorem rp_rvs {ds : List PyData} {vs : List V} (h : Paired (Rp K F) ds vs) : Paired (RV K F m) (ds.map .d) vs := pr_map (f := Val.d) (fun _ _ r => r) h
theorem viewS_ok (ok : SOk K F m H S) {a : Val} {xs : List Val} {v : V} (h : viewS S a = some xs) (r : RV K F m a v) : ∃ p vs, v = .ref p ∧ H p = some (.lst vs) ∧ Paired (RV K F m) xs vs := by
  have fz : ∀ ds, Rp K F (.list ds) v → xs = ds.map .d → ∃ p vs, v = .ref p ∧ H p = some (.lst vs) ∧ Paired (RV K F m) xs vs := fun ds hr e => by
    obtain ⟨p, vs, rfl, h1, h2⟩ := rp_list.mp hr
    subst e
    exact ⟨p, vs, rfl, ok.ex _ _ h1, rp_rvs h2⟩
  cases a with
  | d x =>
    cases x with
    | list ds => cases h; exact fz ds (rv_d.mp r) rfl
    | _ => cases h
  | s ns => cases h
  | t xs => cases h
  | c k =>
    obtain ⟨p, hm, rfl⟩ := r
    rw [viewS] at h
    cases e : S[k]? with
    | none => rw [e] at h; cases h
    | some c =>
      rw [e] at h
      have hc := ok.cell k p c hm e
      cases c with
      | dk _ => cases h
      | dt _ => cases h
      | fk _ => cases h
      | ft _ => cases h
      | ins _ _ => cases h
      | lst ys =>
        cases h
        obtain ⟨_, vs, h2, h3⟩ := hc
        exact ⟨p, vs, rfl, h2, h3⟩
      | frz y =>
        cases y with
        | list ds => cases h; exact fz ds hc rfl
        | _ => cases h
theorem ints_rvs : ∀ ns : List Int, Paired (RV K F m) (ns.map fun i => .d (.int i)) (ns.map V.int)
  | [] => .nil
  | n :: ns => by
    have h : RV K F m (.d (.int n)) (.int n) := (rp_int (K := K) (F := F) (i := n)).mpr rfl
    exact .cons h (ints_rvs ns)
theorem viewL_ok (ok : SOk K F m H S) {a : Val} {xs : List Val} {v : V} (h : viewL S a = some xs) (r : RV K F m a v) : ∃ p vs, v = .ref p ∧ SqL K H p vs ∧ Paired (RV K F m) xs vs := by
  have other : viewS S a = some xs → ∃ p vs, v = .ref p ∧ SqL K H p vs ∧ Paired (RV K F m) xs vs := fun h => by
    obtain ⟨p, vs, e, h1, h2⟩ := viewS_ok ok h r
    exact ⟨p, vs, e, .of h1, h2⟩
  cases a with
  | d x => exact other h
  | c k => exact other h
  | t xs => exact other h
  | s ns =>
    cases h
    obtain ⟨p, rfl, h1⟩ := r
    exact ⟨p, _, rfl, ok.ex.seq h1, ints_rvs ns⟩
end
end QL

namespace QL
open PySem PySem.Spec PyProof.Rows L2

/-! ### what follows -/
def Kt (K : PySem.W.Frag) (F : Hp) (m : List Addr) (H : Hp) (Q : VK) (r : Val) (S' : Sto) : Prop := ∀ v F' m' H', Stp F m H F' m' H' → SOk K F' m' H' S' → RV K F' m' r v → Q v H'
def KtT (K : PySem.W.Frag) (F : Hp) (m : List Addr) (H : Hp) (Q : Bool → Hp → Prop) (r : Bool) (S' : Sto) : Prop := ∀ F' m' H', Stp F m H F' m' H' → SOk K F' m' H' S' → Q r H'
def KtA (K : PySem.W.Frag) (F : Hp) (m : List Addr) (H : Hp) (Q : List V → Hp → Prop) (rs : List Val) (S' : Sto) : Prop := ∀ vs F' m' H', Stp F m H F' m' H' → SOk K F' m' H' S' → Paired (RV K F' m') rs vs → Q vs H'
abbrev Ef := Rho → Sto → Option (Val × Sto)
abbrev Tf := Rho → Sto → Option (Bool × Sto)
abbrev Af := Rho → Sto → Option (List Val × Sto)
/-- the reading of a plain function -/
def tE (K : PySem.W.Frag) (f : Ef) : TE := fun σ H Q => ∃ F m S ρ r S', SOk K F m H S ∧ ROk K F m ρ σ ∧ f ρ S = some (r, S') ∧ Kt K F m H Q r S'
def tT (K : PySem.W.Frag) (f : Tf) : TT := fun σ H Q => ∃ F m S ρ r S', SOk K F m H S ∧ ROk K F m ρ σ ∧ f ρ S = some (r, S') ∧ KtT K F m H Q r S'
def tA (K : PySem.W.Frag) (f : Af) : TA := fun σ H Q => ∃ F m S ρ r S', SOk K F m H S ∧ ROk K F m ρ σ ∧ f ρ S = some (r, S') ∧ KtA K F m H Q r S'
def SndE (K : PySem.W.Frag) (t : TE) (f : Ef) : Prop := ∀ ⦃F m H S ρ σ r S'⦄, SOk K F m H S → ROk K F m ρ σ → f ρ S = some (r, S') → ∀ Q : VK, Kt K F m H Q r S' → t σ H Q
def SndT (K : PySem.W.Frag) (t : TT) (f : Tf) : Prop := ∀ ⦃F m H S ρ σ r S'⦄, SOk K F m H S → ROk K F m ρ σ → f ρ S = some (r, S') → ∀ Q : Bool → Hp → Prop, KtT K F m H Q r S' → t σ H Q
def SndA (K : PySem.W.Frag) (t : TA) (f : Af) : Prop := ∀ ⦃F m H S ρ σ r S'⦄, SOk K F m H S → ROk K F m ρ σ → f ρ S = some (r, S') → ∀ Q : List V → Hp → Prop, KtA K F m H Q r S' → t σ H Q
/-- expression e behaves as f -/
def EE (X : Cx) (e : Expr) (f : Ef) : Prop := PE X e (tE X.K f)
def ET (X : Cx) (e : Expr) (f : Tf) : Prop := PT X e (tT X.K f)
def EW (X : Cx) (e : Expr) (f : Tf) : Prop := PW X e (tT X.K f)
def EA (X : Cx) (es : List Expr) (f : Af) : Prop := PA X es (tA X.K f)

section
variable {X : Cx} {K : PySem.W.Frag}
theorem ee_of {e : Expr} {t : TE} {f : Ef} (h : PE X e t) (s : SndE X.K t f) : EE X e f :=
  ⟨fun pins s' σ H Q I ⟨_, _, _, _, _, _, ok, ro, e, k⟩ => h.run pins s' σ H Q I (s ok ro e Q k)⟩
theorem et_of {e : Expr} {t : TT} {f : Tf} (h : PT X e t) (s : SndT X.K t f) : ET X e f :=
  ⟨fun pins s' σ H Q I ⟨_, _, _, _, _, _, ok, ro, e, k⟩ => h.run pins s' σ H Q I (s ok ro e Q k)⟩
theorem ew_of {e : Expr} {t : TT} {f : Tf} (h : PW X e t) (s : SndT X.K t f) : EW X e f :=
  ⟨fun wh pins s' σ H Q I ⟨_, _, _, _, _, _, ok, ro, e, k⟩ => h.run wh pins s' σ H Q I (s ok ro e Q k)⟩
theorem ea_of {es : List Expr} {t : TA} {f : Af} (h : PA X es t) (s : SndA X.K t f) : EA X es f :=
  ⟨fun pos pins s' σ H Q I ⟨_, _, _, _, _, _, ok, ro, e, k⟩ => h.run pos pins s' σ H Q I (s ok ro e Q k)⟩
theorem sndE {f : Ef} : SndE K (tE K f) f := fun _ _ _ _ _ _ _ _ ok ro e _ k => ⟨_, _, _, _, _, _, ok, ro, e, k⟩
theorem sndT {f : Tf} : SndT K (tT K f) f := fun _ _ _ _ _ _ _ _ ok ro e _ k => ⟨_, _, _, _, _, _, ok, ro, e, k⟩
theorem sndA {f : Af} : SndA K (tA K f) f := fun _ _ _ _ _ _ _ _ ok ro e _ k => ⟨_, _, _, _, _, _, ok, ro, e, k⟩
theorem Kt.on {F F1 : Hp} {m m1 : List Addr} {H H1 : Hp} {Q : VK} {r : Val} {S' : Sto} (st : Stp F m H F1 m1 H1) (k : Kt K F m H Q r S') : Kt K F1 m1 H1 Q r S' := fun v F' m' H' s2 ok r => k v F' m' H' (st.trans s2) ok r
theorem KtT.on {F F1 : Hp} {m m1 : List Addr} {H H1 : Hp} {Q : Bool → Hp → Prop} {r : Bool} {S' : Sto} (st : Stp F m H F1 m1 H1) (k : KtT K F m H Q r S') : KtT K F1 m1 H1 Q r S' := fun F' m' H' s2 ok => k F' m' H' (st.trans s2) ok
theorem KtA.on {F F1 : Hp} {m m1 : List Addr} {H H1 : Hp} {Q : List V → Hp → Prop} {r : List Val} {S' : Sto} (st : Stp F m H F1 m1 H1) (k : KtA K F m H Q r S') : KtA K F1 m1 H1 Q r S' := fun v F' m' H' s2 ok r => k v F' m' H' (st.trans s2) ok r
theorem Kt.here {F : Hp} {m : List Addr} {H : Hp} {Q : VK} {r : Val} {S' : Sto} {v : V} (k : Kt K F m H Q r S') (ok : SOk K F m H S') (hv : RV K F m r v) : Q v H := k v F m H Stp.refl ok hv
theorem KtT.here {F : Hp} {m : List Addr} {H : Hp} {Q : Bool → Hp → Prop} {r : Bool} {S' : Sto} (k : KtT K F m H Q r S') (ok : SOk K F m H S') : Q r H := k F m H Stp.refl ok

/-! ### binding -/
/-- one after the other -/
def bnd {α β : Type} (x : Option (α × Sto)) (f : α → Sto → Option (β × Sto)) : Option (β × Sto) := match x with
  | some (a, S) => f a S
  | none => none
theorem bnd_some {α β : Type} (a : α) (S : Sto) (f : α → Sto → Option (β × Sto)) : bnd (some (a, S)) f = f a S := rfl
theorem bnd_none {α β : Type} (f : α → Sto → Option (β × Sto)) : bnd none f = none := rfl
theorem bnd_inv {α β : Type} {x : Option (α × Sto)} {f : α → Sto → Option (β × Sto)} {r : β × Sto} (h : bnd x f = some r) : ∃ a S, x = some (a, S) ∧ f a S = some r := by
  cases x with
  | none => cases h
  | some p => exact ⟨p.1, p.2, rfl, h⟩

/-! ### names, constants -/
def eVar (i : Nat) : Ef := fun ρ S => match ρ[i]? with
  | some (some v) => some (v, S)
  | _ => none
def eC (x : PyData) : Ef := fun _ S => some (.d x, S)
theorem ev (i : Nat) {x : Str} {pos : Pos} (hN : X.N[i]? = some x := by rfl) (hv : Vis X.env.scope x := by first | exact Or.inl rfl | exact Or.inr (Or.inl rfl) | exact Or.inr (Or.inr rfl)) (hd : (x == ("__debug__" : Str)) = false := by decide)
    (hcd : (x == ("__classdict__" : Str)) = false := by decide) : EE X (.Name x pos) (eVar i) :=
  ee_of (pe_var hN hv hd hcd) fun F m H S ρ σ r S' ok ro e Q k => by
    unfold eVar at e
    split at e
    · rename_i v hv'
      cases e
      obtain ⟨u, h1, h2⟩ := ro.get i _ hv'
      exact ⟨u, h1, k.here ok h2⟩
    · cases e
theorem ee_cst {e : Expr} {v : V} {d : PyData} (h : PE X e (tC v)) (hd : ∀ F, Rp X.K F d v) : EE X e (eC d) :=
  ee_of h fun F m H S ρ σ r S' ok ro e Q k => by
    cases e
    exact k.here ok (hd F)
theorem ei {i : Int} {j pos} : EE X (.Constant (.int i) j pos) (eC (.int i)) := ee_cst pe_int fun _ => rp_int.mpr rfl
theorem ebl {b : Bool} {j pos} : EE X (.Constant (.bool b) j pos) (eC (.bool b)) := ee_cst pe_bl fun _ => rp_bool.mpr rfl
theorem eno {j pos} : EE X (.Constant .none j pos) (eC .none) := ee_cst pe_non fun _ => rp_none.mpr rfl
theorem estr {x : Str} {j pos} : EE X (.Constant (.str x) j pos) (eC (.str x)) := ee_cst pe_str fun _ => rp_str.mpr rfl
/-- a constant of the module: an int, a text -/
theorem ee_gI {x : Str} {i : Int} {t : Tok} {pos : Pos} (hm : X.mg x = some (.int i t)) (hg : Gl X x := by rfl) (hd : (x == ("__debug__" : Str)) = false := by decide) : EE X (.Name x pos) (eC (.int i)) := ee_cst (pe_glob hg hm (show RelV (.int i) _ from ⟨t, rfl⟩) hd) fun _ => rp_int.mpr rfl
theorem ee_gS {x : Str} {i : Str} {t : Tok} {pos : Pos} (hm : X.mg x = some (.str i t)) (hg : Gl X x := by rfl) (hd : (x == ("__debug__" : Str)) = false := by decide) : EE X (.Name x pos) (eC (.str i)) := ee_cst (pe_glob hg hm (show RelV (.str i) _ from ⟨t, rfl⟩) hd) fun _ => rp_str.mpr rfl

/-! ### operators -/
def RB (K : PySem.W.Frag) (r : R2) (g : Val → Val → Sto → Option (Val × Sto)) : Prop := ∀ ⦃F m H S a b v u res S'⦄, SOk K F m H S → RV K F m a v → RV K F m b u → g a b S = some (res, S') → ∀ Q : VK, Kt K F m H Q res S' → r v u H Q
def OpG (X : Cx) (f : Value → Value → Sem Value) (g : Val → Val → Sto → Option (Val × Sto)) : Prop := ∃ r, OpR X f r ∧ RB X.K r g
def RU (K : PySem.W.Frag) (r : V → Hp → VK → Prop) (g : Val → Sto → Option (Val × Sto)) : Prop := ∀ ⦃F m H S a v res S'⦄, SOk K F m H S → RV K F m a v → g a S = some (res, S') → ∀ Q : VK, Kt K F m H Q res S' → r v H Q
def RC (K : PySem.W.Frag) (r : List V → Hp → VK → Prop) (g : List Val → Sto → Option (Val × Sto)) : Prop := ∀ ⦃F m H S as vs res S'⦄, SOk K F m H S → Paired (RV K F m) as vs → g as S = some (res, S') → ∀ Q : VK, Kt K F m H Q res S' → r vs H Q
def CallG (X : Cx) (f : Value) (g : List Val → Sto → Option (Val × Sto)) : Prop := ∃ r, CallR X f r ∧ RC X.K r g
def alt2 (g h : Val → Val → Sto → Option (Val × Sto)) : Val → Val → Sto → Option (Val × Sto) := fun a b S => match g a b S with
  | some r => some r
  | none => h a b S
def altC (g h : List Val → Sto → Option (Val × Sto)) : List Val → Sto → Option (Val × Sto) := fun as S => match g as S with
  | some r => some r
  | none => h as S
theorem OpG.or {f : Value → Value → Sem Value} {g h : Val → Val → Sto → Option (Val × Sto)} (a : OpG X f g) (b : OpG X f h) : OpG X f (alt2 g h) := by
  obtain ⟨r, h1, h2⟩ := a
  obtain ⟨r', h3, h4⟩ := b
  refine ⟨_, h1.or h3, fun F m H S x y v u res S' ok rx ry e Q k => ?_⟩
  unfold alt2 at e
  split at e
  · rename_i q hq
    cases e
    exact .inl (h2 ok rx ry hq Q k)
  · exact .inr (h4 ok rx ry e Q k)
theorem CallG.or {f : Value} {g h : List Val → Sto → Option (Val × Sto)} (a : CallG X f g) (b : CallG X f h) : CallG X f (altC g h) := by
  obtain ⟨r, h1, h2⟩ := a
  obtain ⟨r', h3, h4⟩ := b
  refine ⟨_, h1.or h3, fun F m H S as vs res S' ok rx e Q k => ?_⟩
  unfold altC at e
  split at e
  · rename_i q hq
    cases e
    exact .inl (h2 ok rx hq Q k)
  · exact .inr (h4 ok rx e Q k)
def eBin (g : Val → Val → Sto → Option (Val × Sto)) (fa fb : Ef) : Ef := fun ρ S => bnd (fa ρ S) fun a S1 => bnd (fb ρ S1) fun b S2 => g a b S2
theorem snd_bin {r : R2} {g : Val → Val → Sto → Option (Val × Sto)} {fa fb : Ef} (h : RB K r g) : SndE K (tOp r (tE K fa) (tE K fb)) (eBin g fa fb) := fun F m H S ρ σ res S' ok ro e Q k => by
  obtain ⟨a, S1, e1, e⟩ := bnd_inv e
  obtain ⟨b, S2, e2, e⟩ := bnd_inv e
  refine sndE ok ro e1 _ fun v F1 m1 H1 st1 ok1 r1 => ?_
  refine sndE ok1 (ro_mono st1 ro) e2 _ fun u F2 m2 H2 st2 ok2 r2 => ?_
  exact h ok2 (rv_mono st2 r1) r2 e Q (k.on (st1.trans st2))
theorem ee_op {op : Operator} {g : Val → Val → Sto → Option (Val × Sto)} {a b : Expr} {fa fb : Ef} {pos : Pos} (ho : OpG X (binaryOp op) g) (ha : EE X a fa) (hb : EE X b fb) : EE X (.BinOp a op b pos) (eBin g fa fb) := by
  obtain ⟨r, h1, h2⟩ := ho
  exact ee_of (pe_op h1 ha hb) (snd_bin h2)
def eUn (g : Val → Sto → Option (Val × Sto)) (fa : Ef) : Ef := fun ρ S => bnd (fa ρ S) g

/-! ### new objects -/
inductive Md where
  | N | D
def alloc : Md → List Val → Sto → Option (Val × Sto)
  | .N, xs, S => some (.c S.length, S ++ [.lst xs])
  | .D, xs, S => (unD xs).map fun ds => (.d (.list ds), S)
theorem alloc_D (ds : List PyData) (S : Sto) : alloc .D (ds.map .d) S = some (.d (.list ds), S) := by
  show (unD (ds.map .d)).map _ = _
  rw [unD_d]; rfl
theorem alloc_N (xs : List Val) (S : Sto) : alloc .N xs S = some (.c S.length, S ++ [.lst xs]) := rfl
/-- tuples are data -/
def mkT (xs : List Val) (S : Sto) : Option (Val × Sto) := match unD xs with
  | some ds => some (.d (.tuple ds), S)
  | none => some (.t xs, S)
theorem mkT_d (ds : List PyData) (S : Sto) : mkT (ds.map .d) S = some (.d (.tuple ds), S) := by
  unfold mkT; rw [unD_d]
theorem alloc_ok {F : Hp} {m : List Addr} {H : Hp} {S : Sto} {md : Md} {xs : List Val} {vs : List V} {r : Val} {S' : Sto} {p : Addr} {Q : VK} (ok : SOk K F m H S) (hv : Paired (RV K F m) xs vs) (e : alloc md xs S = some (r, S')) (k : Kt K F m H Q r S') (hp : H p = none) :
    Q (.ref p) (upd H p (.lst vs)) := by
  cases md with
  | N =>
    cases e
    obtain ⟨h1, h2, h3⟩ := al_N ok hp hv
    exact k _ _ _ _ h2 h1 h3
  | D =>
    have e' : (unD xs).map (fun ds => (Val.d (.list ds), S)) = some (r, S') := e
    cases q : unD xs with
    | none => rw [q] at e'; cases e'
    | some ds =>
      rw [q] at e'; cases e'
      obtain ⟨h1, h2⟩ := al_F (o := .lst vs) ok hp
      exact k _ _ _ _ h2 h1 (rv_list.mpr ⟨p, vs, rfl, upd_same, pr_mono (fun x v => rp_mono h2.ex x v) (unD_ok q hv)⟩)
theorem mkT_ok {F : Hp} {m : List Addr} {H : Hp} {S : Sto} {xs : List Val} {vs : List V} {r : Val} {S' : Sto} {p : Addr} {Q : VK} (ok : SOk K F m H S) (hv : Paired (RV K F m) xs vs) (e : mkT xs S = some (r, S')) (k : Kt K F m H Q r S') (hp : H p = none) :
    Q (.ref p) (upd H p (.tup vs)) := by
  unfold mkT at e
  cases q : unD xs with
  | none =>
    rw [q] at e; cases e
    obtain ⟨h1, h2⟩ := al_F (o := .tup vs) ok hp
    exact k _ _ _ _ h2 h1 (rv_t.mpr ⟨p, vs, rfl, upd_same, rvs_mono h2 hv⟩)
  | some ds =>
    rw [q] at e; cases e
    obtain ⟨h1, h2⟩ := al_F (o := .tup vs) ok hp
    exact k _ _ _ _ h2 h1 (rv_tuple.mpr ⟨p, vs, rfl, upd_same, pr_mono (fun x v => rp_mono h2.ex x v) (unD_ok q hv)⟩)

/-! ### arithmetic -/
def gI (C : Int → Int → Bool) (g : Int → Int → PyData) : Val → Val → Sto → Option (Val × Sto)
  | .d (.int i), .d (.int j), S => if C i j then some (.d (g i j), S) else none
  | _, _, _ => none
theorem gI_inv {C : Int → Int → Bool} {g : Int → Int → PyData} {a b : Val} {S : Sto} {r : Val × Sto} (h : gI C g a b S = some r) : ∃ i j, a = .d (.int i) ∧ b = .d (.int j) ∧ C i j = true ∧ r = (.d (g i j), S) := by
  unfold gI at h
  split at h
  · rename_i i j
    by_cases c : C i j = true
    · rw [if_pos c] at h
      exact ⟨i, j, rfl, rfl, c, (Option.some.inj h).symm⟩
    · rw [if_neg c] at h; cases h
  · cases h
theorem opI_g {f : Value → Value → Sem Value} {P : Int → Int → Prop} {w : Int → Int → V} {C : Int → Int → Bool} {g : Int → Int → PyData} (h : OpR X f (rI P w)) (hc : ∀ i j, C i j = true → P i j) (hg : ∀ i j F, C i j = true → Rp X.K F (g i j) (w i j)) : OpG X f (gI C g) :=
  ⟨_, h, fun F m H S a b v u res S' ok ra rb e Q k => by
    obtain ⟨i, j, rfl, rfl, c, er⟩ := gI_inv e
    cases er
    cases rv_int.mp ra
    cases rv_int.mp rb
    exact ⟨i, j, rfl, rfl, hc i j c, k.here ok (hg i j F c)⟩⟩
theorem opI0_g {f : Value → Value → Sem Value} {w : Int → Int → V} {g : Int → Int → PyData} (h : OpR X f (rI0 w)) (hg : ∀ i j F, Rp X.K F (g i j) (w i j)) : OpG X f (gI (fun _ _ => true) g) :=
  ⟨_, h, fun F m H S a b v u res S' ok ra rb e Q k => by
    obtain ⟨i, j, rfl, rfl, c, er⟩ := gI_inv e
    cases er
    cases rv_int.mp ra
    cases rv_int.mp rb
    exact ⟨i, j, rfl, rfl, k.here ok (hg i j F)⟩⟩
def gAddI := gI (fun _ _ => true) fun i j => .int (i + j)
def gSub := gI (fun _ _ => true) fun i j => .int (i - j)
def gMulI := gI (fun i j => decide ((-(2 ^ 64) < i ∧ i < 2 ^ 64) ∨ (-(2 ^ 64) < j ∧ j < 2 ^ 64))) fun i j => .int (i * j)
def gDiv := gI (fun _ j => decide (0 < j ∧ j < 1073741824)) fun i j => .int (i / j)
def gMod := gI (fun _ j => decide (0 < j)) fun i j => .int (i % j)
def gPow := gI (fun i j => decide (0 ≤ j ∧ j ≤ 1000000 ∧ i.natAbs < 2 ^ 64)) fun i j => .int (i ^ j.toNat)
theorem og_addI : OpG X (binaryOp .Add) gAddI := opI0_g op_add fun _ _ _ => rp_int.mpr rfl
theorem og_sub : OpG X (binaryOp .Sub) gSub := opI0_g op_sub fun _ _ _ => rp_int.mpr rfl
theorem og_mulI : OpG X (binaryOp .Mult) gMulI := opI_g op_mul (fun _ _ h => by unfold CMul; exact of_decide_eq_true h) fun _ _ _ _ => rp_int.mpr rfl
theorem og_div : OpG X (binaryOp .FloorDiv) gDiv := opI_g op_fdiv (fun _ _ h => by unfold CDiv; exact of_decide_eq_true h) fun _ _ _ _ => rp_int.mpr rfl
theorem og_mod : OpG X (binaryOp .Mod) gMod := opI_g op_mod (fun _ _ h => of_decide_eq_true h) fun _ _ _ _ => rp_int.mpr rfl
theorem og_pow : OpG X (binaryOp .Pow) gPow := opI_g op_pow (fun _ _ h => by unfold CPow; exact of_decide_eq_true h) fun _ _ _ _ => rp_int.mpr rfl
/-- texts -/
def gAddS : Val → Val → Sto → Option (Val × Sto)
  | .d (.str i), .d (.str j), S => if i.length + j.length ≤ sizeLine then some (.d (.str (i ++ j)), S) else none
  | _, _, _ => none
theorem og_addS : OpG X (binaryOp .Add) gAddS := ⟨_, op_add_str, fun F m H S a b v u res S' ok ra rb e Q k => by
  unfold gAddS at e
  split at e
  · rename_i i j
    split at e
    · rename_i hz
      cases e
      cases rv_str.mp ra
      cases rv_str.mp rb
      exact ⟨i, j, rfl, rfl, hz, k.here ok (rv_str.mpr rfl)⟩
    · cases e
  · cases e⟩
/-- lists -/
def gAddL (md : Md) : Val → Val → Sto → Option (Val × Sto) := fun a b S => match viewS S a, viewS S b with
  | some xs, some ys => if xs.length + ys.length ≤ sizeLine then alloc md (xs ++ ys) S else none
  | _, _ => none
theorem og_addL (md : Md) : OpG X (binaryOp .Add) (gAddL md) := ⟨_, op_cat, fun F m H S a b v u res S' ok ra rb e Q k => by
  unfold gAddL at e
  split at e
  · rename_i xs ys h1 h2
    split at e
    · rename_i hz
      obtain ⟨p, vs, rfl, q1, q2⟩ := viewS_ok ok h1 ra
      obtain ⟨p', vs', rfl, q3, q4⟩ := viewS_ok ok h2 rb
      exact ⟨p, p', vs, vs', rfl, rfl, q1, q3, by rw [← pr_len q2, ← pr_len q4]; exact hz, fun l hl => alloc_ok ok (pr_append q2 q4) e k hl⟩
    · cases e
  · cases e⟩
/-- tuples -/
def gAddT : Val → Val → Sto → Option (Val × Sto)
  | .d (.tuple xs), .d (.tuple ys), S => if xs.length + ys.length ≤ sizeLine then some (.d (.tuple (xs ++ ys)), S) else none
  | _, _, _ => none
theorem og_addT : OpG X (binaryOp .Add) gAddT := ⟨_, op_catA, fun F m H S a b v u res S' ok ra rb e Q k => by
  unfold gAddT at e
  split at e
  · rename_i xs ys
    split at e
    · rename_i hz
      cases e
      obtain ⟨p, vs, rfl, q1, q2⟩ := rv_tuple.mp ra
      obtain ⟨p', vs', rfl, q3, q4⟩ := rv_tuple.mp rb
      refine ⟨p, p', vs, vs', rfl, rfl, same_t ok.ex q1, same_t ok.ex q3, by rw [← pr_len q2, ← pr_len q4]; exact hz, fun z => ?_, fun _ z => ?_, fun z z2 l hl => ?_⟩
      · have := (pr_nil_iff q2).mpr z
        subst this
        rw [List.nil_append] at k
        exact k.here ok rb
      · have := (pr_nil_iff q4).mpr z
        subst this
        rw [List.append_nil] at k
        exact k.here ok ra
      · obtain ⟨h1, h2⟩ := al_F (o := .tup (vs ++ vs')) ok hl
        exact k _ _ _ _ h2 h1 (rv_tuple.mpr ⟨l, _, rfl, upd_same, pr_mono (fun x v => rp_mono h2.ex x v) (pr_append q2 q4)⟩)
    · cases e
  · cases e⟩
def gAdd (md : Md) := alt2 gAddI (alt2 gAddS (alt2 gAddT (gAddL md)))
theorem og_add (md : Md) : OpG X (binaryOp .Add) (gAdd md) := og_addI.or (og_addS.or (og_addT.or (og_addL md)))
/-- a list times an int -/
def gRep (md : Md) : Val → Val → Sto → Option (Val × Sto) := fun a b S => match viewS S a, b with
  | some xs, .d (.int k) => if -(2 ^ 63) ≤ k ∧ k < 2 ^ 63 ∧ xs.length * k.toNat ≤ sizeLine then alloc md (List.replicate k.toNat xs).flatten S else none
  | _, _ => none
theorem pr_rep {α β : Type} {G : α → β → Prop} {xs : List α} {ys : List β} (h : Paired G xs ys) : ∀ k : Nat, Paired G (List.replicate k xs).flatten (List.replicate k ys).flatten
  | 0 => .nil
  | k + 1 => by
    rw [List.replicate_succ, List.replicate_succ, List.flatten_cons, List.flatten_cons]
    exact pr_append h (pr_rep h k)
theorem og_rep (md : Md) : OpG X (binaryOp .Mult) (gRep md) := ⟨_, op_rep, fun F m H S a b v u res S' ok ra rb e Q k => by
  unfold gRep at e
  split at e
  · rename_i xs j h1
    split at e
    · rename_i hz
      obtain ⟨p, vs, rfl, q1, q2⟩ := viewS_ok ok h1 ra
      cases rv_int.mp rb
      exact ⟨p, j, vs, rfl, rfl, q1, hz.1, hz.2.1, by rw [← pr_len q2]; exact hz.2.2, fun l hl => alloc_ok ok (pr_rep q2 _) e k hl⟩
    · cases e
  · cases e⟩
def gMul (md : Md) := alt2 gMulI (gRep md)
theorem og_mul (md : Md) : OpG X (binaryOp .Mult) (gMul md) := og_mulI.or (og_rep md)
/-- - a -/
def eNeg (fa : Ef) : Ef := eUn (fun a S => match a with
  | .d (.int i) => some (.d (.int (-i)), S)
  | _ => none) fa
theorem ee_neg {a : Expr} {fa : Ef} {pos : Pos} (ha : EE X a fa) : EE X (.UnaryOp .USub a pos) (eNeg fa) :=
  ee_of (pe_un un_neg ha) fun F m H S ρ σ res S' ok ro e Q k => by
    obtain ⟨a, S1, e1, e⟩ := bnd_inv e
    refine sndE ok ro e1 _ fun v F1 m1 H1 st1 ok1 r1 => ?_
    split at e
    · rename_i i
      cases e
      cases rv_int.mp r1
      exact ⟨i, rfl, (k.on st1).here ok1 (rv_int.mpr rfl)⟩
    · cases e

/-! ### comparisons -/
def dEqv (x y : PyData) : Option Bool := if x.plain && y.plain && decide (min x.depth y.depth ≤ 60) then some (PyData.eqv x y) else none
def gEq : Val → Val → Sto → Option (Val × Sto) := fun a b S => match look S a, look S b with
  | some x, some y => (dEqv x y).map fun c => (.d (.bool c), S)
  | _, _ => none
def gNe : Val → Val → Sto → Option (Val × Sto) := fun a b S => match look S a, look S b with
  | some x, some y => (dEqv x y).map fun c => (.d (.bool !c), S)
  | _, _ => none
def rEqQ (K : PySem.W.Frag) : R2 := fun x y H Q => ∃ d e, Rp K H d x ∧ Rp K H e y ∧ d.plain = true ∧ e.plain = true ∧ min d.depth e.depth ≤ 60 ∧ Q (.bl (PyData.eqv d e)) H
def rNeQ (K : PySem.W.Frag) : R2 := fun x y H Q => ∃ d e, Rp K H d x ∧ Rp K H e y ∧ d.plain = true ∧ e.plain = true ∧ min d.depth e.depth ≤ 60 ∧ Q (.bl (!PyData.eqv d e)) H
theorem op_eqQ (hu : X.A.units + 61 < cLine) : OpR X (compareOp .Eq) (rEqQ X.K) := by
  intro pins s σ H x y v u Q I rx ry h
  obtain ⟨d, e, hd, he, sd, se, hm, q⟩ := h
  obtain ⟨as, r1⟩ := Dp.reads I d x v (rp_dp d x hd) rx
  obtain ⟨bs, r2⟩ := Dp.reads I e y u (rp_dp e y he) ry
  exact SeqAt.eq_plain r1 r2 sd se (by omega) ⟨.bl _, H, I, rfl, q⟩
theorem op_neQ (hu : X.A.units + 61 < cLine) : OpR X (compareOp .NotEq) (rNeQ X.K) := by
  intro pins s σ H x y v u Q I rx ry h
  obtain ⟨d, e, hd, he, sd, se, hm, q⟩ := h
  obtain ⟨as, r1⟩ := Dp.reads I d x v (rp_dp d x hd) rx
  obtain ⟨bs, r2⟩ := Dp.reads I e y u (rp_dp e y he) ry
  exact SeqAt.ne_plain r1 r2 sd se (by omega) ⟨.bl _, H, I, rfl, q⟩
theorem hu61 {A : Around} {k : Nat} (hr : Room k A) : A.units + 61 < cLine := by have := hr.un; omega
theorem dEqv_inv {x y : PyData} {c : Bool} (h : dEqv x y = some c) : x.plain = true ∧ y.plain = true ∧ min x.depth y.depth ≤ 60 ∧ c = PyData.eqv x y := by
  unfold dEqv at h
  split at h
  · rename_i q
    simp only [Bool.and_eq_true, decide_eq_true_eq] at q
    exact ⟨q.1.1, q.1.2, q.2, (Option.some.inj h).symm⟩
  · cases h
theorem og_eq {k : Nat} (hr : Room k X.A) : OpG X (compareOp .Eq) gEq := ⟨_, op_eqQ (hu61 hr), fun F m H S a b v u res S' ok ra rb e Q k => by
  unfold gEq at e
  split at e
  · rename_i x y h1 h2
    cases q : dEqv x y with
    | none => rw [q] at e; cases e
    | some c =>
      rw [q] at e; cases e
      obtain ⟨p1, p2, p3, rfl⟩ := dEqv_inv q
      exact ⟨x, y, look_ok ok h1 ra, look_ok ok h2 rb, p1, p2, p3, k.here ok (rv_bool.mpr rfl)⟩
  · cases e⟩
theorem og_ne {k : Nat} (hr : Room k X.A) : OpG X (compareOp .NotEq) gNe := ⟨_, op_neQ (hu61 hr), fun F m H S a b v u res S' ok ra rb e Q k => by
  unfold gNe at e
  split at e
  · rename_i x y h1 h2
    cases q : dEqv x y with
    | none => rw [q] at e; cases e
    | some c =>
      rw [q] at e; cases e
      obtain ⟨p1, p2, p3, rfl⟩ := dEqv_inv q
      exact ⟨x, y, look_ok ok h1 ra, look_ok ok h2 rb, p1, p2, p3, k.here ok (rv_bool.mpr rfl)⟩
  · cases e⟩
def gLtI := gI (fun _ _ => true) fun i j => .bool (decide (i < j))
def gLeI := gI (fun _ _ => true) fun i j => .bool (decide (i ≤ j))
def gGtI := gI (fun _ _ => true) fun i j => .bool (decide (j < i))
def gGeI := gI (fun _ _ => true) fun i j => .bool (decide (j ≤ i))
theorem og_ltI : OpG X (compareOp .Lt) gLtI := opI0_g op_lt fun _ _ _ => rp_bool.mpr rfl
theorem og_leI : OpG X (compareOp .LtE) gLeI := opI0_g op_le fun _ _ _ => rp_bool.mpr rfl
theorem og_gtI : OpG X (compareOp .Gt) gGtI := opI0_g op_gt fun _ _ _ => rp_bool.mpr rfl
theorem og_geI : OpG X (compareOp .GtE) gGeI := opI0_g op_ge fun _ _ _ => rp_bool.mpr rfl
def gS2 (g : Str → Str → PyData) : Val → Val → Sto → Option (Val × Sto)
  | .d (.str i), .d (.str j), S => some (.d (g i j), S)
  | _, _, _ => none
theorem opS_g {f : Value → Value → Sem Value} {w : Str → Str → V} {g : Str → Str → PyData} (h : OpR X f (fun x y H Q => ∃ i j, x = .str i ∧ y = .str j ∧ Q (w i j) H)) (hg : ∀ i j F, Rp X.K F (g i j) (w i j)) : OpG X f (gS2 g) :=
  ⟨_, h, fun F m H S a b v u res S' ok ra rb e Q k => by
    unfold gS2 at e
    split at e
    · rename_i i j
      cases e
      cases rv_str.mp ra
      cases rv_str.mp rb
      exact ⟨i, j, rfl, rfl, k.here ok (hg i j F)⟩
    · cases e⟩
def gLeS := gS2 fun i j => .bool (!decide (j.cps.toList < i.cps.toList))
theorem og_leS : OpG X (compareOp .LtE) gLeS := opS_g op_le_str fun _ _ _ => rp_bool.mpr rfl
def gLe := alt2 gLeI gLeS
theorem og_le : OpG X (compareOp .LtE) gLe := og_leI.or og_leS
/-- is None -/
def isNo : PyData → Bool
  | .none => true
  | _ => false
def gIs (neg : Bool) : Val → Val → Sto → Option (Val × Sto)
  | .d x, .d .none, S => some (.d (.bool (xor neg (isNo x))), S)
  | _, _, _ => none
theorem rp_isnone {F : Hp} {x : PyData} {v : V} (h : Rp K F x v) : decide (v = .non) = (isNo x) := by
  cases x with
  | none => cases rp_none.mp h; rfl
  | bool b => cases rp_bool.mp h; rfl
  | int b => cases rp_int.mp h; rfl
  | str b => cases rp_str.mp h; rfl
  | list b => obtain ⟨a, vs, rfl, _⟩ := rp_list.mp h; rfl
  | tuple b => obtain ⟨a, vs, rfl, _⟩ := rp_tuple.mp h; rfl
  | dict b => exact (rp_dict.mp h).elim
theorem og_is : OpG X (compareOp .Is) (gIs false) := ⟨_, op_isN, fun F m H S a b v u res S' ok ra rb e Q k => by
  unfold gIs at e
  split at e
  · rename_i x
    cases e
    refine ⟨rv_none.mp rb, ?_⟩
    rw [rp_isnone ra]
    exact k.here ok (rv_bool.mpr (by rw [Bool.false_xor]))
  · cases e⟩
theorem og_isnot : OpG X (compareOp .IsNot) (gIs true) := ⟨_, op_notN, fun F m H S a b v u res S' ok ra rb e Q k => by
  unfold gIs at e
  split at e
  · rename_i x
    cases e
    refine ⟨rv_none.mp rb, ?_⟩
    rw [rp_isnone ra]
    exact k.here ok (rv_bool.mpr (by rw [Bool.true_xor]))
  · cases e⟩
theorem ee_cmp {op : CmpOp} {g : Val → Val → Sto → Option (Val × Sto)} {a b : Expr} {fa fb : Ef} {pos : Pos} (ho : OpG X (compareOp op) g) (ha : EE X a fa) (hb : EE X b fb) (hm : behindInMarks op b = false := by first | exact nomark _ | rfl) : EE X (.Compare a [op] [b] pos) (eBin g fa fb) := by
  obtain ⟨r, h1, h2⟩ := ho
  exact ee_of (pe_cmpR h1 ha hb hm) (snd_bin h2)
/-- a value as a test -/
def tst (f : Ef) : Tf := fun ρ S => bnd (f ρ S) fun a S1 => match a with
  | .d (.bool b) => some (b, S1)
  | _ => none
theorem snd_tst {t : TE} {f : Ef} (h : SndE K t f) : SndT K (tTest t) (tst f) := fun F m H S ρ σ res S' ok ro e Q k => by
  obtain ⟨a, S1, e1, e⟩ := bnd_inv e
  refine h ok ro e1 _ fun v F1 m1 H1 st1 ok1 r1 => ?_
  split at e
  · rename_i b
    cases e
    cases rv_bool.mp r1
    exact ⟨_, rfl, (k.on st1).here ok1⟩
  · cases e
theorem et_cmp {op : CmpOp} {g : Val → Val → Sto → Option (Val × Sto)} {a b : Expr} {fa fb : Ef} {pos : Pos} (ho : OpG X (compareOp op) g) (ha : EE X a fa) (hb : EE X b fb) (hm : behindInMarks op b = false := by first | exact nomark _ | rfl) : ET X (.Compare a [op] [b] pos) (tst (eBin g fa fb)) := by
  obtain ⟨r, h1, h2⟩ := ho
  exact et_of (pt_cmpR h1 ha hb hm) (snd_tst (snd_bin h2))
theorem et_val {e : Expr} {f : Ef} (h : EE X e f) (he : ∀ whole, isTrue e X.env whole = (do let v ← whole; standAt e.pos; holding [v] (truthy v)) := by intro _; rfl) : ET X e (tst f) :=
  et_of (pt_val h he) (snd_tst sndE)
/-- a op b op' c -/
def eChain (g g' : Val → Val → Sto → Option (Val × Sto)) (fa fb fc : Ef) : Ef := fun ρ S => bnd (fa ρ S) fun a S1 => bnd (fb ρ S1) fun b S2 => bnd (g a b S2) fun r S3 => match r with
  | .d (.bool true) => bnd (fc ρ S3) fun c S4 => g' b c S4
  | .d (.bool false) => some (.d (.bool false), S3)
  | _ => none
theorem snd_chain {r r' : R2} {g g' : Val → Val → Sto → Option (Val × Sto)} {fa fb fc : Ef} (h : RB K r g) (h' : RB K r' g') : SndE K (tChain r r' (tE K fa) (tE K fb) (tE K fc)) (eChain g g' fa fb fc) := fun F m H S ρ σ res S' ok ro e Q k => by
  obtain ⟨a, S1, e1, e⟩ := bnd_inv e
  obtain ⟨b, S2, e2, e⟩ := bnd_inv e
  obtain ⟨c, S3, e3, e⟩ := bnd_inv e
  refine sndE ok ro e1 _ fun v F1 m1 H1 st1 ok1 r1 => ?_
  refine sndE ok1 (ro_mono st1 ro) e2 _ fun u F2 m2 H2 st2 ok2 r2 => ?_
  refine h ok2 (rv_mono st2 r1) r2 e3 _ fun z F3 m3 H3 st3 ok3 r3 => ?_
  have stt := (st1.trans st2).trans st3
  split at e
  · cases rv_bool.mp r3
    refine ⟨true, rfl, ?_⟩
    rw [if_pos rfl]
    obtain ⟨c, S4, e4, e⟩ := bnd_inv e
    refine sndE ok3 (ro_mono stt ro) e4 _ fun w F4 m4 H4 st4 ok4 r4 => ?_
    exact h' ok4 (rv_mono (st3.trans st4) r2) r4 e Q (k.on (stt.trans st4))
  · cases rv_bool.mp r3
    cases e
    refine ⟨false, rfl, ?_⟩
    rw [if_neg Bool.false_ne_true]
    exact (k.on stt).here ok3 (rv_bool.mpr rfl)
  · cases e
end
end QL

namespace QL
open PySem PySem.Spec PyProof.Rows L2
section
variable {X : Cx} {K : PySem.W.Frag}
/-! ### and, or, not, if: tests -/
def fAnd (f g : Tf) : Tf := fun ρ S => bnd (f ρ S) fun a S1 => if a = true then g ρ S1 else some (false, S1)
def fOr (f g : Tf) : Tf := fun ρ S => bnd (f ρ S) fun a S1 => if a = true then some (true, S1) else g ρ S1
def fNot (f : Tf) : Tf := fun ρ S => bnd (f ρ S) fun a S1 => some (!a, S1)
theorem snd_and {f g : Tf} : SndT K (tAnd (tT K f) (tT K g)) (fAnd f g) := fun F m H S ρ σ res S' ok ro e Q k => by
  obtain ⟨a, S1, e1, e⟩ := bnd_inv e
  refine sndT ok ro e1 _ fun F1 m1 H1 st1 ok1 => ?_
  cases a with
  | true => exact iteT (sndT ok1 (ro_mono st1 ro) e Q (k.on st1))
  | false => cases e; exact iteF ((k.on st1).here ok1)
theorem snd_or {f g : Tf} : SndT K (tOr (tT K f) (tT K g)) (fOr f g) := fun F m H S ρ σ res S' ok ro e Q k => by
  obtain ⟨a, S1, e1, e⟩ := bnd_inv e
  refine sndT ok ro e1 _ fun F1 m1 H1 st1 ok1 => ?_
  cases a with
  | false => exact iteF (sndT ok1 (ro_mono st1 ro) e Q (k.on st1))
  | true => cases e; exact iteT ((k.on st1).here ok1)
variable {a b c : Expr} {rest : List Expr} {pos : Pos} {f g h : Tf} {fa fb fc : Ef}
theorem ew_and1 (ha : ET X a f) : EW X (.BoolOp .And [a] pos) f := pw_and1 ha
theorem ew_or1 (ha : ET X a f) : EW X (.BoolOp .Or [a] pos) f := pw_or1 ha
theorem ew_and (ha : ET X a f) (hb : EW X (.BoolOp .And (b :: rest) pos) g) : EW X (.BoolOp .And (a :: b :: rest) pos) (fAnd f g) := ew_of (pw_and ha hb) snd_and
theorem ew_or (ha : ET X a f) (hb : EW X (.BoolOp .Or (b :: rest) pos) g) : EW X (.BoolOp .Or (a :: b :: rest) pos) (fOr f g) := ew_of (pw_or ha hb) snd_or
theorem et_bo {op} (h : EW X (.BoolOp op rest pos) f) : ET X (.BoolOp op rest pos) f := PW.pt h
theorem et_not (ha : ET X a f) : ET X (.UnaryOp .Not a pos) (fNot f) := et_of (pt_not ha) fun F m H S ρ σ res S' ok ro e Q k => by
  obtain ⟨a, S1, e1, e⟩ := bnd_inv e
  cases e
  exact sndT ok ro e1 _ fun F1 m1 H1 st1 ok1 => (k.on st1).here ok1
/-! .. as values (bools) -/
def eAnd (f g : Ef) : Ef := fun ρ S => bnd (f ρ S) fun a S1 => match a with
  | .d (.bool true) => g ρ S1
  | .d (.bool false) => some (.d (.bool false), S1)
  | _ => none
def eOr (f g : Ef) : Ef := fun ρ S => bnd (f ρ S) fun a S1 => match a with
  | .d (.bool false) => g ρ S1
  | .d (.bool true) => some (.d (.bool true), S1)
  | _ => none
def eNot (f : Ef) : Ef := fun ρ S => bnd (f ρ S) fun a S1 => match a with
  | .d (.bool c) => some (.d (.bool !c), S1)
  | _ => none
theorem ee_one {op} (h : EE X a fa) : EE X (.BoolOp op [a] pos) fa := pe_one h
theorem ee_and (ha : EE X a fa) (hb : EE X (.BoolOp .And (b :: rest) pos) fb) : EE X (.BoolOp .And (a :: b :: rest) pos) (eAnd fa fb) := ee_of (pe_and ha hb) fun F m H S ρ σ res S' ok ro e Q k => by
  obtain ⟨a, S1, e1, e⟩ := bnd_inv e
  refine sndE ok ro e1 _ fun v F1 m1 H1 st1 ok1 r1 => ?_
  split at e
  · cases rv_bool.mp r1
    exact ⟨true, rfl, iteT (sndE ok1 (ro_mono st1 ro) e Q (k.on st1))⟩
  · cases rv_bool.mp r1
    cases e
    exact ⟨false, rfl, iteF ((k.on st1).here ok1 (rv_bool.mpr rfl))⟩
  · cases e
theorem ee_or (ha : EE X a fa) (hb : EE X (.BoolOp .Or (b :: rest) pos) fb) : EE X (.BoolOp .Or (a :: b :: rest) pos) (eOr fa fb) := ee_of (pe_or ha hb) fun F m H S ρ σ res S' ok ro e Q k => by
  obtain ⟨a, S1, e1, e⟩ := bnd_inv e
  refine sndE ok ro e1 _ fun v F1 m1 H1 st1 ok1 r1 => ?_
  split at e
  · cases rv_bool.mp r1
    exact ⟨false, rfl, iteF (sndE ok1 (ro_mono st1 ro) e Q (k.on st1))⟩
  · cases rv_bool.mp r1
    cases e
    exact ⟨true, rfl, iteT ((k.on st1).here ok1 (rv_bool.mpr rfl))⟩
  · cases e
theorem ee_not (ha : EE X a fa) : EE X (.UnaryOp .Not a pos) (eNot fa) := ee_of (pe_not ha) fun F m H S ρ σ res S' ok ro e Q k => by
  obtain ⟨a, S1, e1, e⟩ := bnd_inv e
  refine sndE ok ro e1 _ fun v F1 m1 H1 st1 ok1 r1 => ?_
  split at e
  · cases rv_bool.mp r1
    cases e
    exact ⟨_, rfl, (k.on st1).here ok1 (rv_bool.mpr rfl)⟩
  · cases e
def eIf (f : Tf) (fa fb : Ef) : Ef := fun ρ S => bnd (f ρ S) fun c S1 => if c = true then fa ρ S1 else fb ρ S1
theorem ee_if (hc : ET X c f) (ha : EE X a fa) (hb : EE X b fb) : EE X (.IfExp c a b pos) (eIf f fa fb) := ee_of (pe_ifExp hc ha hb) fun F m H S ρ σ res S' ok ro e Q k => by
  obtain ⟨a, S1, e1, e⟩ := bnd_inv e
  refine sndT ok ro e1 _ fun F1 m1 H1 st1 ok1 => ?_
  cases a with
  | true => exact iteT (sndE ok1 (ro_mono st1 ro) e Q (k.on st1))
  | false => exact iteF (sndE ok1 (ro_mono st1 ro) e Q (k.on st1))
/-! ### a op b op' c -/
theorem ee_chain {op op' : CmpOp} {g g' : Val → Val → Sto → Option (Val × Sto)} (ho : OpG X (compareOp op) g) (ho' : OpG X (compareOp op') g') (ha : EE X a fa) (hb : EE X b fb) (hc : EE X c fc)
    (hm : lastMarks [op, op'] [b, c] = false := by rfl) : EE X (.Compare a [op, op'] [b, c] pos) (eChain g g' fa fb fc) := by
  obtain ⟨r, q1, q2⟩ := ho
  obtain ⟨r', q3, q4⟩ := ho'
  exact ee_of (pe_chain q1 q3 ha hb hc hm) (snd_chain q2 q4)
theorem et_chain {op op' : CmpOp} {g g' : Val → Val → Sto → Option (Val × Sto)} (ho : OpG X (compareOp op) g) (ho' : OpG X (compareOp op') g') (ha : EE X a fa) (hb : EE X b fb) (hc : EE X c fc)
    (hm : lastMarks [op, op'] [b, c] = false := by rfl) : ET X (.Compare a [op, op'] [b, c] pos) (tst (eChain g g' fa fb fc)) := by
  obtain ⟨r, q1, q2⟩ := ho
  obtain ⟨r', q3, q4⟩ := ho'
  exact et_of (pt_chain q1 q3 ha hb hc hm) (snd_tst (snd_chain q2 q4))

/-! ### arguments, displays -/
def aNil : Af := fun _ S => some ([], S)
def aCons (f : Ef) (g : Af) : Af := fun ρ S => bnd (f ρ S) fun a S1 => bnd (g ρ S1) fun as S2 => some (a :: as, S2)
variable {es : List Expr} {fs : Af} {e : Expr}
theorem ea_nil : EA X [] aNil := ea_of pa_nil fun F m H S ρ σ res S' ok ro e Q k => by
  cases e
  exact k _ _ _ _ Stp.refl ok .nil
theorem ea_cons (ha : EE X e fa) (hr : EA X es fs) (hs : starEach (e :: es) X.env = (false, eval e X.env) :: starEach es X.env := by rfl) : EA X (e :: es) (aCons fa fs) := ea_of (pa_cons ha hr hs) fun F m H S ρ σ res S' ok ro e Q k => by
  obtain ⟨a, S1, e1, e⟩ := bnd_inv e
  obtain ⟨as, S2, e2, e⟩ := bnd_inv e
  cases e
  refine sndE ok ro e1 _ fun v F1 m1 H1 st1 ok1 r1 => ?_
  refine sndA ok1 (ro_mono st1 ro) e2 _ fun vs F2 m2 H2 st2 ok2 r2 => ?_
  exact k _ _ _ _ (st1.trans st2) ok2 (.cons (rv_mono st2 r1) r2)
def eLst (md : Md) (fs : Af) : Ef := fun ρ S => bnd (fs ρ S) fun as S1 => if as.length ≤ sizeLine then alloc md as S1 else none
def eTup (fs : Af) : Ef := fun ρ S => bnd (fs ρ S) fun as S1 => if as.length ≤ sizeLine then mkT as S1 else none
theorem ee_lst (md : Md) (h : EA X es fs) : EE X (.List es pos) (eLst md fs) := ee_of (pe_lst h) fun F m H S ρ σ res S' ok ro e Q k => by
  obtain ⟨as, S1, e1, e⟩ := bnd_inv e
  split at e
  · rename_i hz
    refine sndA ok ro e1 _ fun vs F1 m1 H1 st1 ok1 r1 => ⟨by rw [← pr_len r1]; exact hz, fun p hp => alloc_ok ok1 r1 e (k.on st1) hp⟩
  · cases e
theorem ee_tup {x1} (h : EA X es fs) : EE X (.Tuple es x1 pos) (eTup fs) := ee_of (pe_tup h) fun F m H S ρ σ res S' ok ro e Q k => by
  obtain ⟨as, S1, e1, e⟩ := bnd_inv e
  split at e
  · rename_i hz
    refine sndA ok ro e1 _ fun vs F1 m1 H1 st1 ok1 r1 => ⟨by rw [← pr_len r1]; exact hz, fun p hp => mkT_ok ok1 r1 e (k.on st1) hp⟩
  · cases e

/-! ### built-in calls -/
def eCB (g : List Val → Sto → Option (Val × Sto)) (fs : Af) : Ef := fun ρ S => bnd (fs ρ S) g
theorem snd_cb {r : List V → Hp → VK → Prop} {g : List Val → Sto → Option (Val × Sto)} (h : RC K r g) : SndE K (tCB r (tA K fs)) (eCB g fs) := fun F m H S ρ σ res S' ok ro e Q k => by
  obtain ⟨as, S1, e1, e⟩ := bnd_inv e
  exact sndA ok ro e1 _ fun vs F1 m1 H1 st1 ok1 r1 => h ok1 r1 e Q (k.on st1)
theorem ee_cb {id : String} {x : Str} {p : Pos} {g : List Val → Sto → Option (Val × Sto)} (hc : CallG X (.builtin id) g) (hm : X.mg x = none) (ha : EA X (e :: es) fs) (hv : bootBuiltins x = some (.builtin id) := by decide +kernel) (hg : Gl X x := by rfl) (hn : x ≠ "__name__" := by decide) (hdb : (x == ("__debug__" : Str)) = false := by decide)
    (he : starEach (e :: es) X.env = (false, eval e X.env) :: starEach es X.env := by rfl) (hpl : (backTo pos (starEach es X.env)).any (·.1) = false := by rfl) : EE X (.Call (.Name x p) (e :: es) [] pos) (eCB g fs) := by
  obtain ⟨r, h1, h2⟩ := hc
  exact ee_of (pe_callB h1 hg hm hv ha hn hdb he hpl) (snd_cb h2)
theorem ee_cty {id : String} {x : Str} {p : Pos} {g : List Val → Sto → Option (Val × Sto)} (hc : CallG X (.type id) g) (hm : X.mg x = none) (ha : EA X (e :: es) fs) (hv : bootBuiltins x = some (.type id) := by decide +kernel) (hg : Gl X x := by rfl) (hn : x ≠ "__name__" := by decide) (hdb : (x == ("__debug__" : Str)) = false := by decide)
    (he : starEach (e :: es) X.env = (false, eval e X.env) :: starEach es X.env := by rfl) (hpl : (backTo pos (starEach es X.env)).any (·.1) = false := by rfl) : EE X (.Call (.Name x p) (e :: es) [] pos) (eCB g fs) := by
  obtain ⟨r, h1, h2⟩ := hc
  exact ee_of (pe_callTy h1 hg hm hv ha hn hdb he hpl) (snd_cb h2)
def gAbs : List Val → Sto → Option (Val × Sto)
  | [.d (.int i)], S => some (.d (.int (if i < 0 then -i else i)), S)
  | _, _ => none
theorem cg_abs : CallG X (.builtin "abs") gAbs := ⟨_, call_abs, fun F m H S as vs res S' ok rs e Q k => by
  unfold gAbs at e
  split at e
  · rename_i i
    cases e
    cases rs with
    | cons r1 t =>
      cases t
      cases rv_int.mp r1
      exact ⟨i, rfl, k.here ok (rv_int.mpr rfl)⟩
  · cases e⟩
def gMax2 : List Val → Sto → Option (Val × Sto)
  | [.d (.int i), .d (.int j)], S => some (.d (.int (if j > i then j else i)), S)
  | _, _ => none
def gMin2 : List Val → Sto → Option (Val × Sto)
  | [.d (.int i), .d (.int j)], S => some (.d (.int (if j < i then j else i)), S)
  | _, _ => none
theorem cg_max2 (hc : X.calm = true := by rfl) : CallG X (.builtin "max") gMax2 := ⟨_, call_max2 hc, fun F m H S as vs res S' ok rs e Q k => by
  unfold gMax2 at e
  split at e
  · rename_i i j
    cases e
    cases rs with
    | cons r1 t =>
      cases t with
      | cons r2 t =>
        cases t
        cases rv_int.mp r1
        cases rv_int.mp r2
        exact ⟨i, j, rfl, k.here ok (rv_int.mpr rfl)⟩
  · cases e⟩
theorem cg_min2 (hc : X.calm = true := by rfl) : CallG X (.builtin "min") gMin2 := ⟨_, call_min2 hc, fun F m H S as vs res S' ok rs e Q k => by
  unfold gMin2 at e
  split at e
  · rename_i i j
    cases e
    cases rs with
    | cons r1 t =>
      cases t with
      | cons r2 t =>
        cases t
        cases rv_int.mp r1
        cases rv_int.mp r2
        exact ⟨i, j, rfl, k.here ok (rv_int.mpr rfl)⟩
  · cases e⟩
def gInt : List Val → Sto → Option (Val × Sto)
  | [.d (.int i)], S => some (.d (.int i), S)
  | [.d (.bool b)], S => some (.d (.int (if b then 1 else 0)), S)
  | _, _ => none
theorem cg_int : CallG X (.type "int") gInt := ⟨_, call_int1, fun F m H S as vs res S' ok rs e Q k => by
  unfold gInt at e
  split at e
  · rename_i i
    cases e
    cases rs with
    | cons r1 t =>
      cases t
      cases rv_int.mp r1
      exact .inl ⟨i, rfl, k.here ok (rv_int.mpr rfl)⟩
  · rename_i i
    cases e
    cases rs with
    | cons r1 t =>
      cases t
      cases rv_bool.mp r1
      exact .inr ⟨i, rfl, k.here ok (rv_int.mpr rfl)⟩
  · cases e⟩
def gDivmod : List Val → Sto → Option (Val × Sto)
  | [.d (.int i), .d (.int j)], S => if 0 < j ∧ j < 1073741824 then some (.d (.tuple [.int (i / j), .int (i % j)]), S) else none
  | _, _ => none
theorem cg_divmod : CallG X (.builtin "divmod") gDivmod := ⟨_, call_divmod, fun F m H S as vs res S' ok rs e Q k => by
  unfold gDivmod at e
  split at e
  · rename_i i j
    split at e
    · rename_i hc
      cases e
      cases rs with
      | cons r1 t =>
        cases t with
        | cons r2 t =>
          cases t
          cases rv_int.mp r1
          cases rv_int.mp r2
          refine ⟨i, j, rfl, hc, fun p hp => ?_⟩
          obtain ⟨h1, h2⟩ := al_F (o := .tup [.int (i / j), .int (i % j)]) ok hp
          exact k _ _ _ _ h2 h1 (rv_tuple.mpr ⟨p, _, rfl, upd_same, .cons (rp_int.mpr rfl) (.cons (rp_int.mpr rfl) .nil)⟩)
    · cases e
  · cases e⟩
/-- len of a list, a tuple, a text -/
def gLen : List Val → Sto → Option (Val × Sto)
  | [.d (.tuple xs)], S => some (.d (.int xs.length), S)
  | [.t xs], S => some (.d (.int xs.length), S)
  | [.d (.str x)], S => if x.length ≤ sizeLine then some (.d (.int x.length), S) else none
  | [a], S => match viewL S a with
    | some xs => some (.d (.int xs.length), S)
    | none => none
  | _, _ => none
theorem cg_len : CallG X (.builtin "len") gLen := ⟨_, call_len, fun F m H S as vs res S' ok rs e Q k => by
  unfold gLen at e
  split at e
  · rename_i xs
    cases e
    cases rs with
    | cons r1 t =>
      cases t
      obtain ⟨a, ws, rfl, q1, q2⟩ := rv_tuple.mp r1
      exact ⟨_, ws.length, rfl, .inr ⟨ws, same_t ok.ex q1, rfl⟩, k.here ok (rv_int.mpr (by rw [pr_len q2]))⟩
  · rename_i xs
    cases e
    cases rs with
    | cons r1 t =>
      cases t
      obtain ⟨a, ws, rfl, q1, q2⟩ := rv_t.mp r1
      exact ⟨_, ws.length, rfl, .inr ⟨ws, same_t ok.ex q1, rfl⟩, k.here ok (rv_int.mpr (by rw [pr_len q2]))⟩
  · rename_i x
    split at e
    · rename_i hz
      cases e
      cases rs with
      | cons r1 t =>
        cases t
        cases rv_str.mp r1
        exact ⟨_, x.length, rfl, ⟨hz, rfl⟩, k.here ok (rv_int.mpr rfl)⟩
    · cases e
  · rename_i a _ _ _
    split at e
    · rename_i xs h1
      cases e
      cases rs with
      | cons r1 t =>
        cases t
        obtain ⟨p, ws, rfl, q1, q2⟩ := viewL_ok ok h1 r1
        exact ⟨_, ws.length, rfl, .inl ⟨ws, q1, rfl⟩, k.here ok (rv_int.mpr (by rw [pr_len q2]))⟩
    · cases e
  · cases e⟩
/-- list(..) of a list, a tuple -/
def viewQ (S : Sto) : Val → Option (List Val)
  | .d (.tuple xs) => some (xs.map .d)
  | .t xs => some xs
  | a => viewL S a
theorem viewQ_ok {F H : Hp} {m : List Addr} {S : Sto} (ok : SOk K F m H S) {a : Val} {xs : List Val} {v : V} (h : viewQ S a = some xs) (r : RV K F m a v) : ∃ p vs, v = .ref p ∧ (SqL K H p vs ∨ SqT K H p vs) ∧ Paired (RV K F m) xs vs := by
  have other : viewL S a = some xs → ∃ p vs, v = .ref p ∧ (SqL K H p vs ∨ SqT K H p vs) ∧ Paired (RV K F m) xs vs := fun h => by
    obtain ⟨p, vs, e, h1, h2⟩ := viewL_ok ok h r
    exact ⟨p, vs, e, .inl h1, h2⟩
  unfold viewQ at h
  split at h
  · cases h
    obtain ⟨p, vs, rfl, h1, h2⟩ := rv_tuple.mp r
    exact ⟨p, vs, rfl, .inr (same_t ok.ex h1), rp_rvs h2⟩
  · cases h
    obtain ⟨p, vs, rfl, h1, h2⟩ := rv_t.mp r
    exact ⟨p, vs, rfl, .inr (same_t ok.ex h1), h2⟩
  · exact other h
def gList (md : Md) : List Val → Sto → Option (Val × Sto)
  | [a], S => match viewQ S a with
    | some xs => alloc md xs S
    | none => none
  | _, _ => none
theorem cg_list (md : Md) : CallG X (.type "list") (gList md) := ⟨_, call_list_of, fun F m H S as vs res S' ok rs e Q k => by
  unfold gList at e
  split at e
  · split at e
    · rename_i xs h1
      cases rs with
      | cons r1 t =>
        cases t
        obtain ⟨p, ws, rfl, q1, q2⟩ := viewQ_ok ok h1 r1
        exact ⟨p, ws, rfl, q1, fun l hl => alloc_ok ok q2 e k hl⟩
    · cases e
  · cases e⟩
/-- tuple(..) -/
def gTuple : List Val → Sto → Option (Val × Sto)
  | [.d (.tuple xs)], S => some (.d (.tuple xs), S)
  | [a], S => match viewL S a with
    | some xs => mkT xs S
    | none => none
  | _, _ => none
theorem cg_tuple : CallG X (.type "tuple") gTuple := ⟨_, call_tuple_of, fun F m H S as vs res S' ok rs e Q k => by
  unfold gTuple at e
  split at e
  · cases e
    cases rs with
    | cons r1 t =>
      cases t
      obtain ⟨p, ws, rfl, q1, q2⟩ := rv_tuple.mp r1
      exact ⟨p, ws, rfl, .inr ⟨same_t ok.ex q1, k.here ok r1⟩⟩
  · split at e
    · rename_i xs h1
      cases rs with
      | cons r1 t =>
        cases t
        obtain ⟨p, ws, rfl, q1, q2⟩ := viewL_ok ok h1 r1
        exact ⟨p, ws, rfl, .inl ⟨q1, fun l hl => mkT_ok ok q2 e k hl⟩⟩
    · cases e
  · cases e⟩
/-- lists of ints, of bools -/
def isI : PyData → Option Int
  | .int i => some i
  | _ => none
def isB : PyData → Option Bool
  | .bool i => some i
  | _ => none
theorem mapI_ok {H : Hp} : ∀ {ds : List PyData} {ns : List Int} {vs : List V}, mapO isI ds = some ns → Paired (Rp K H) ds vs → vs = ns.map V.int
  | [], ns, _, h, .nil => by cases h; rfl
  | d :: ds, ns, _, h, .cons r t => by
    have h' : ((isI d).bind fun b => (mapO isI ds).map (b :: ·)) = some ns := h
    cases d with
    | int i =>
      cases e : mapO isI ds with
      | none => rw [e] at h'; cases h'
      | some bs =>
        rw [e] at h'
        cases h'
        cases rp_int.mp r
        rw [List.map_cons, mapI_ok e t]
    | _ => cases h'
theorem mapB_ok {H : Hp} : ∀ {ds : List PyData} {ns : List Bool} {vs : List V}, mapO isB ds = some ns → Paired (Rp K H) ds vs → vs = ns.map V.bl
  | [], ns, _, h, .nil => by cases h; rfl
  | d :: ds, ns, _, h, .cons r t => by
    have h' : ((isB d).bind fun b => (mapO isB ds).map (b :: ·)) = some ns := h
    cases d with
    | bool i =>
      cases e : mapO isB ds with
      | none => rw [e] at h'; cases h'
      | some bs =>
        rw [e] at h'
        cases h'
        cases rp_bool.mp r
        rw [List.map_cons, mapB_ok e t]
    | _ => cases h'
theorem mapI_d : ∀ ns : List Int, mapO isI (ns.map .int) = some ns
  | [] => rfl
  | n :: ns => by rw [List.map_cons, mapO, mapI_d ns]; rfl
theorem mapB_d : ∀ ns : List Bool, mapO isB (ns.map .bool) = some ns
  | [] => rfl
  | n :: ns => by rw [List.map_cons, mapO, mapB_d ns]; rfl
def lookIs (S : Sto) (a : Val) : Option (List Int) := match look S a with
  | some (.list ds) => mapO isI ds
  | _ => none
def lookBs (S : Sto) (a : Val) : Option (List Bool) := match look S a with
  | some (.list ds) => mapO isB ds
  | _ => none
theorem lookIs_d (S : Sto) (ns : List Int) : lookIs S (.d (.list (ns.map .int))) = some ns := mapI_d ns
theorem lookBs_d (S : Sto) (ns : List Bool) : lookBs S (.d (.list (ns.map .bool))) = some ns := mapB_d ns
theorem lookIs_ok {F H : Hp} {m : List Addr} {S : Sto} (ok : SOk K F m H S) {a : Val} {ns : List Int} {v : V} (h : lookIs S a = some ns) (r : RV K F m a v) : ∃ p, v = .ref p ∧ H p = some (.lst (ns.map V.int)) := by
  unfold lookIs at h
  split at h
  · rename_i ds h1
    obtain ⟨p, vs, rfl, q1, q2⟩ := rp_list.mp (look_ok ok h1 r)
    rw [mapI_ok h q2] at q1
    exact ⟨p, rfl, q1⟩
  · cases h
theorem lookBs_ok {F H : Hp} {m : List Addr} {S : Sto} (ok : SOk K F m H S) {a : Val} {ns : List Bool} {v : V} (h : lookBs S a = some ns) (r : RV K F m a v) : ∃ p, v = .ref p ∧ H p = some (.lst (ns.map V.bl)) := by
  unfold lookBs at h
  split at h
  · rename_i ds h1
    obtain ⟨p, vs, rfl, q1, q2⟩ := rp_list.mp (look_ok ok h1 r)
    rw [mapB_ok h q2] at q1
    exact ⟨p, rfl, q1⟩
  · cases h
def gSum : List Val → Sto → Option (Val × Sto)
  | [a], S => (lookIs S a).map fun ns => (.d (.int ns.sum), S)
  | _, _ => none
def gAll : List Val → Sto → Option (Val × Sto)
  | [a], S => (lookBs S a).map fun ns => (.d (.bool (ns.all id)), S)
  | _, _ => none
def gAny : List Val → Sto → Option (Val × Sto)
  | [a], S => (lookBs S a).map fun ns => (.d (.bool (ns.any id)), S)
  | _, _ => none
theorem cg_sum (hc : X.calm = true := by rfl) : CallG X (.builtin "sum") gSum := ⟨_, cr_sum hc, fun F m H S as vs res S' ok rs e Q k => by
  unfold gSum at e
  split at e
  · rename_i a
    cases q : lookIs S a with
    | none => rw [q] at e; cases e
    | some ns =>
      rw [q] at e; cases e
      cases rs with
      | cons r1 t =>
        cases t
        obtain ⟨p, rfl, h1⟩ := lookIs_ok ok q r1
        exact ⟨p, ns, rfl, .of h1, k.here ok (rv_int.mpr rfl)⟩
  · cases e⟩
theorem cg_all (hc : X.calm = true := by rfl) : CallG X (.builtin "all") gAll := ⟨_, cr_all hc, fun F m H S as vs res S' ok rs e Q k => by
  unfold gAll at e
  split at e
  · rename_i a
    cases q : lookBs S a with
    | none => rw [q] at e; cases e
    | some ns =>
      rw [q] at e; cases e
      cases rs with
      | cons r1 t =>
        cases t
        obtain ⟨p, rfl, h1⟩ := lookBs_ok ok q r1
        exact ⟨p, ns, rfl, .of h1, k.here ok (rv_bool.mpr rfl)⟩
  · cases e⟩
theorem cg_any (hc : X.calm = true := by rfl) : CallG X (.builtin "any") gAny := ⟨_, cr_any hc, fun F m H S as vs res S' ok rs e Q k => by
  unfold gAny at e
  split at e
  · rename_i a
    cases q : lookBs S a with
    | none => rw [q] at e; cases e
    | some ns =>
      rw [q] at e; cases e
      cases rs with
      | cons r1 t =>
        cases t
        obtain ⟨p, rfl, h1⟩ := lookBs_ok ok q r1
        exact ⟨p, ns, rfl, .of h1, k.here ok (rv_bool.mpr rfl)⟩
  · cases e⟩

/-! ### isinstance -/
def tyN : PyData → String
  | .none => "NoneType" | .bool _ => "bool" | .int _ => "int" | .str _ => "str" | .list _ => "list" | .tuple _ => "tuple" | .dict _ => "dict"
def isT (d : PyData) (T : String) : Bool := tyN d == T || (T == "int" && tyN d == "bool")
theorem rp_ty {H : Hp} {d : PyData} {v : V} (h : Rp K H d v) : TyX K H v (.type (tyN d)) := by
  cases d with
  | none => cases rp_none.mp h; exact .base .non
  | bool b => cases rp_bool.mp h; exact .base (.bl b)
  | int b => cases rp_int.mp h; exact .base (.int b)
  | str b => cases rp_str.mp h; exact .base (.str b)
  | list b => obtain ⟨a, vs, rfl, h1, _⟩ := rp_list.mp h; exact .base (.lst h1)
  | tuple b =>
    obtain ⟨a, vs, rfl, h1, _⟩ := rp_tuple.mp h
    exact .base (.tup h1)
  | dict b => exact (rp_dict.mp h).elim
theorem kb_all : (["NoneType", "bool", "int", "str", "list", "tuple"].all fun a => ["int", "bool", "str", "list", "tuple"].all fun b => kitB a b == some (a == b || (b == "int" && a == "bool"))) = true := by decide +kernel
theorem kb_of {H : Hp} {d : PyData} {v : V} (h : Rp K H d v) {T : String} (hT : T ∈ ["int", "bool", "str", "list", "tuple"]) : PySem.W.kitOne K (.type (tyN d)) (.type T) = some (isT d T) := by
  have h1 := List.all_eq_true.mp kb_all (tyN d) (by cases d <;> first | (simp [tyN]; done) | exact (rp_dict.mp h).elim)
  have h2 := List.all_eq_true.mp h1 T hT
  exact kit_ty (beq_iff_eq.mp h2)
def gIsi (Ts : List String) (fa : Ef) : Ef := fun ρ S => bnd (fa ρ S) fun a S1 => match look S1 a with
  | some d => some (.d (.bool (Ts.any fun T => isT d T)), S1)
  | none => none
theorem ee_isi {p1 p2 : Pos} {x : Str} {T : String} (hm : X.mg "isinstance" = none) (hx : X.mg x = none) (ha : EE X a fa) (hv : bootBuiltins x = some (.type T) := by decide +kernel) (hT : T ∈ ["int", "bool", "str", "list", "tuple"] := by decide) (hg : Gl X "isinstance" := by rfl) (hgx : Gl X x := by rfl)
    (hn : x ≠ "__name__" := by decide) (hd : (x == ("__debug__" : Str)) = false := by decide) (hs : starEach [a, .Name x p2] X.env = (false, eval a X.env) :: starEach [.Name x p2] X.env := by rfl) (hs2 : starEach [.Name x p2] X.env = (false, eval (.Name x p2) X.env) :: starEach [] X.env := by rfl)
    (hpl : (backTo pos (starEach [.Name x p2] X.env)).any (·.1) = false := by rfl) :
    EE X (.Call (.Name "isinstance" p1) [a, .Name x p2] [] pos) (gIsi [T] fa) :=
  ee_of (pe_callB call_isi hg hm (by decide +kernel) (pa_cons ha (pa_cons (pe_bltn (v := .ty T) hgx hx hv rfl hn hd) pa_nil hs2) hs) (by decide) (by decide) hs hpl) fun F m H S ρ σ res S' ok ro e Q k => by
    obtain ⟨a, S1, e1, e⟩ := bnd_inv e
    refine sndE ok ro e1 _ fun v F1 m1 H1 st1 ok1 r1 => ?_
    split at e
    · rename_i d hd
      cases e
      have hr := look_ok ok1 hd r1
      refine ⟨v, .ty T, _, _, isT d T, rfl, .ty T, rp_ty hr, kb_of hr hT, ?_⟩
      exact (k.on st1).here ok1 (rv_bool.mpr (by simp))
    · cases e
theorem ee_isi2 {p1 p2 p3 p4 : Pos} {x1} {x y : Str} {T U : String} (hm : X.mg "isinstance" = none) (hx : X.mg x = none) (hy : X.mg y = none) (ha : EE X a fa) (hv : bootBuiltins x = some (.type T) := by decide +kernel) (hT : T ∈ ["int", "bool", "str", "list", "tuple"] := by decide) (hw : bootBuiltins y = some (.type U) := by decide +kernel) (hU : U ∈ ["int", "bool", "str", "list", "tuple"] := by decide)
    (hg : Gl X "isinstance" := by rfl) (hgx : Gl X x := by rfl) (hgy : Gl X y := by rfl) (hn : x ≠ "__name__" := by decide) (hd : (x == ("__debug__" : Str)) = false := by decide) (hn' : y ≠ "__name__" := by decide) (hd' : (y == ("__debug__" : Str)) = false := by decide)
    (hs : starEach [a, .Tuple [.Name x p2, .Name y p3] x1 p4] X.env = (false, eval a X.env) :: starEach [.Tuple [.Name x p2, .Name y p3] x1 p4] X.env := by rfl) (hs2 : starEach [.Tuple [.Name x p2, .Name y p3] x1 p4] X.env = (false, eval (.Tuple [.Name x p2, .Name y p3] x1 p4) X.env) :: starEach [] X.env := by rfl)
    (hs3 : starEach [.Name x p2, .Name y p3] X.env = (false, eval (.Name x p2) X.env) :: starEach [.Name y p3] X.env := by rfl) (hs4 : starEach [.Name y p3] X.env = (false, eval (.Name y p3) X.env) :: starEach [] X.env := by rfl)
    (hpl : (backTo pos (starEach [.Tuple [.Name x p2, .Name y p3] x1 p4] X.env)).any (·.1) = false := by rfl) :
    EE X (.Call (.Name "isinstance" p1) [a, .Tuple [.Name x p2, .Name y p3] x1 p4] [] pos) (gIsi [T, U] fa) :=
  ee_of (pe_callB call_isiT hg hm (by decide +kernel) (pa_cons ha (pa_cons (pe_tup (pa_cons (pe_bltn (v := .ty T) hgx hx hv rfl hn hd) (pa_cons (pe_bltn (v := .ty U) hgy hy hw rfl hn' hd') pa_nil hs4) hs3)) pa_nil hs2) hs) (by decide) (by decide) hs hpl) fun F m H S ρ σ res S' ok ro e Q k => by
    obtain ⟨a, S1, e1, e⟩ := bnd_inv e
    refine sndE ok ro e1 _ fun v F1 m1 H1 st1 ok1 r1 => ?_
    split at e
    · rename_i d hd
      cases e
      refine ⟨by show 2 ≤ sizeLine; rw [sizeLine_eq]; decide, fun p hp => ?_⟩
      obtain ⟨ok2, st2⟩ := al_F (o := .tup [.ty T, .ty U]) ok1 hp
      have hr : Rp X.K _ d v := rp_mono (F' := upd H1 p (.tup [.ty T, .ty U])) (fun b o h => by rw [upd_ne (ne_of_none h hp)]; exact h) d v (look_ok ok1 hd r1)
      refine ⟨v, p, [.ty T, .ty U], _, [.type T, .type U], isT d T || isT d U, rfl, upd_same, .cons (.ty T) (.cons (.ty U) .nil), rp_ty hr, ?_, ?_⟩
      · refine kitAny_cons (kb_of hr hT) (fun h => ?_) (fun h => by rw [h]; rfl)
        rw [h, Bool.false_or]
        refine kitAny_cons (kb_of hr hU) (fun h => ?_) (fun h => h)
        rw [h]; rfl
      · exact (k.on (st1.trans st2)).here ok2 (rv_bool.mpr (by simp))
    · cases e
end
end QL

namespace QL
open PySem PySem.Spec PyProof.Rows L2
section
variable {X : Cx} {K : PySem.W.Frag} {a b c e : Expr} {es : List Expr} {pos : Pos} {f g h : Tf} {fa fb fc : Ef} {fs : Af}
/-! ### in -/
def inD (x : PyData) (ds : List PyData) : Option Bool := if x.plain && PyData.plainAll ds && decide (min (PyData.depthAll ds) x.depth ≤ 60) then some (ds.any fun y => PyData.eqv y x) else none
def gIn (neg : Bool) : Val → Val → Sto → Option (Val × Sto) := fun a b S => match look S a, look S b with
  | some x, some (.list ds) => (inD x ds).map fun c => (.d (.bool (xor neg c)), S)
  | some x, some (.tuple ds) => (inD x ds).map fun c => (.d (.bool (xor neg c)), S)
  | some (.str x), some (.str y) => some (.d (.bool (xor neg (!(Builtin.Str.occurrences y x 0 y.length 1).isEmpty))), S)
  | _, _ => none
theorem inD_inv {x : PyData} {ds : List PyData} {c : Bool} (h : inD x ds = some c) : x.plain = true ∧ PyData.plainAll ds = true ∧ min (PyData.depthAll ds) x.depth ≤ 60 ∧ c = ds.any fun y => PyData.eqv y x := by
  unfold inD at h
  split at h
  · rename_i q
    simp only [Bool.and_eq_true, decide_eq_true_eq] at q
    exact ⟨q.1.1, q.1.2, q.2, (Option.some.inj h).symm⟩
  · cases h
def rInQ (K : PySem.W.Frag) (neg : Bool) : R2 := fun x y H Q => ∃ d ds, Rp K H d x ∧ (Rp K H (.list ds) y ∨ Rp K H (.tuple ds) y) ∧ d.plain = true ∧ PyData.plainAll ds = true ∧ min (PyData.depthAll ds) d.depth ≤ 60 ∧ Q (.bl (xor neg (ds.any fun y => PyData.eqv y d))) H
theorem op_inQ (hu : X.A.units + 64 < cLine) : OpR X (compareOp .In) (rInQ X.K false) := by
  intro pins s σ H x y v u Q I rx ry h
  obtain ⟨d, ds, hd, he, sd, se, hm, q⟩ := h
  rw [Bool.false_xor] at q
  obtain ⟨as, r1⟩ := Dp.reads I d x v (rp_dp d x hd) rx
  rcases he with he | he
  · obtain ⟨bs, r2⟩ := Dp.reads I _ y u (rp_dp _ y he) ry
    exact SeqAt.in_list_data r2 r1 se sd (by omega) ⟨.bl _, H, I, rfl, q⟩
  · obtain ⟨bs, r2⟩ := Dp.reads I _ y u (rp_dp _ y he) ry
    exact SeqAt.in_tuple_data r2 r1 se sd (by omega) ⟨.bl _, H, I, rfl, q⟩
theorem op_notInQ (hu : X.A.units + 64 < cLine) : OpR X (compareOp .NotIn) (rInQ X.K true) := by
  intro pins s σ H x y v u Q I rx ry h
  obtain ⟨d, ds, hd, he, sd, se, hm, q⟩ := h
  rw [Bool.true_xor] at q
  obtain ⟨as, r1⟩ := Dp.reads I d x v (rp_dp d x hd) rx
  rcases he with he | he
  · obtain ⟨bs, r2⟩ := Dp.reads I _ y u (rp_dp _ y he) ry
    exact SeqAt.notIn_list_data r2 r1 se sd (by omega) ⟨.bl _, H, I, rfl, q⟩
  · obtain ⟨bs, r2⟩ := Dp.reads I _ y u (rp_dp _ y he) ry
    exact SeqAt.notIn_tuple_data r2 r1 se sd (by omega) ⟨.bl _, H, I, rfl, q⟩
theorem rin_ok {neg : Bool} {rS : R2} (hS : ∀ (i j : Str) (H : Hp) (Q : VK), Q (.bl (xor neg (!(Builtin.Str.occurrences j i 0 j.length 1).isEmpty))) H → rS (.str i) (.str j) H Q) : RB K (fun x y H Q => rInQ K neg x y H Q ∨ rS x y H Q) (gIn neg) := fun F m H S a b v u res S' ok ra rb e Q k => by
  unfold gIn at e
  split at e
  · rename_i x ds h1 h2
    cases q : inD x ds with
    | none => rw [q] at e; cases e
    | some c =>
      rw [q] at e; cases e
      obtain ⟨p1, p2, p3, rfl⟩ := inD_inv q
      exact .inl ⟨x, ds, look_ok ok h1 ra, .inl (look_ok ok h2 rb), p1, p2, p3, k.here ok (rv_bool.mpr rfl)⟩
  · rename_i x ds h1 h2
    cases q : inD x ds with
    | none => rw [q] at e; cases e
    | some c =>
      rw [q] at e; cases e
      obtain ⟨p1, p2, p3, rfl⟩ := inD_inv q
      exact .inl ⟨x, ds, look_ok ok h1 ra, .inr (look_ok ok h2 rb), p1, p2, p3, k.here ok (rv_bool.mpr rfl)⟩
  · rename_i x y h1 h2
    cases e
    cases rp_str.mp (look_ok ok h1 ra)
    cases rp_str.mp (look_ok ok h2 rb)
    exact .inr (hS x y H Q (k.here ok (rv_bool.mpr rfl)))
  · cases e
theorem hu64 {A : Around} {k : Nat} (hr : Room k A) : A.units + 64 < cLine := by have := hr.un; omega
theorem og_in {k : Nat} (hr : Room k X.A) : OpG X (compareOp .In) (gIn false) := ⟨_, (op_inQ (hu64 hr)).or op_in_str, rin_ok fun i j H Q q => ⟨i, j, rfl, rfl, by rw [Bool.false_xor] at q; exact q⟩⟩
theorem og_notin {k : Nat} (hr : Room k X.A) : OpG X (compareOp .NotIn) (gIn true) := ⟨_, (op_notInQ (hu64 hr)).or op_notIn_str, rin_ok fun i j H Q q => ⟨i, j, rfl, rfl, by rw [Bool.true_xor] at q; exact q⟩⟩

/-! ### a[i] -/
def gIx : Val → Val → Sto → Option (Val × Sto) := fun a b S => match b with
  | .d (.int i) => match a with
    | .d (.str z) => if z.length ≤ sizeLine then (atI z.cps.toList i).map fun c => (.d (.str ⟨#[c]⟩), S) else none
    | a => match viewQ S a with
      | some xs => (atI xs i).map fun x => (x, S)
      | none => none
  | _ => none
theorem atI_pr {α β : Type} {G : α → β → Prop} {xs : List α} {ys : List β} (h : Paired G xs ys) {i : Int} {x : α} (e : atI xs i = some x) : ∃ y, atI ys i = some y ∧ G x y := by
  unfold atI at e ⊢
  rw [← pr_len h]
  cases q : ixN xs.length i with
  | none => rw [q] at e; cases e
  | some j =>
    rw [q] at e
    obtain ⟨y, h1, h2⟩ := pr_get h (show xs[j]? = some x from e)
    exact ⟨y, h1, h2⟩
theorem rix_ok : RB K (rIx K) gIx := fun F m H S a b v u res S' ok ra rb e Q k => by
  unfold gIx at e
  split at e
  · rename_i i
    cases rv_int.mp rb
    split at e
    · rename_i z
      split at e
      · rename_i hz
        cases q : atI z.cps.toList i with
        | none => rw [q] at e; cases e
        | some c =>
          rw [q] at e; cases e
          cases rv_str.mp ra
          exact .inr (.inr ⟨z, i, c, rfl, rfl, hz, q, k.here ok (rv_str.mpr rfl)⟩)
      · cases e
    · split at e
      · rename_i xs h1
        cases q : atI xs i with
        | none => rw [q] at e; cases e
        | some x =>
          rw [q] at e; cases e
          obtain ⟨p, ws, rfl, q1, q2⟩ := viewQ_ok ok h1 ra
          obtain ⟨y, h2, h3⟩ := atI_pr q2 q
          rcases q1 with q1 | q1
          · exact .inl ⟨p, ws, i, y, rfl, rfl, q1, h2, k.here ok h3⟩
          · exact .inr (.inl ⟨p, ws, i, y, rfl, rfl, q1, h2, k.here ok h3⟩)
      · cases e
  · cases e
theorem ee_ix (ha : EE X a fa) (hb : EE X b fb) (hs : PlainIx b := by exact fun _ _ => rfl) : EE X (.Subscript a b pos) (eBin gIx fa fb) := ee_of (pe_ix ix_seq ha hb hs) (snd_bin rix_ok)

/-! ### a[i:j] -/
abbrev Of := Rho → Sto → Option (Option Int × Sto)
def oNo : Of := fun _ S => some (none, S)
def oSo (f : Ef) : Of := fun ρ S => bnd (f ρ S) fun a S1 => match a with
  | .d (.int i) => some (some i, S1)
  | _ => none
def KtO (K : PySem.W.Frag) (F : Hp) (m : List Addr) (H : Hp) (Q : Option Int → Hp → Prop) (r : Option Int) (S' : Sto) : Prop := ∀ F' m' H', Stp F m H F' m' H' → SOk K F' m' H' S' → Q r H'
def SndO (K : PySem.W.Frag) (t : TO) (f : Of) : Prop := ∀ ⦃F m H S ρ σ r S'⦄, SOk K F m H S → ROk K F m ρ σ → f ρ S = some (r, S') → ∀ Q : Option Int → Hp → Prop, KtO K F m H Q r S' → t σ H Q
def EO (X : Cx) (e : Option Expr) (f : Of) : Prop := ∃ t, PO X e t ∧ SndO X.K t f
theorem eo_none : EO X none oNo := ⟨_, po_none, fun F m H S ρ σ res S' ok ro e Q k => by cases e; exact k _ _ _ Stp.refl ok⟩
theorem eo_some (ha : EE X a fa) : EO X (some a) (oSo fa) := ⟨_, po_some ha, fun F m H S ρ σ res S' ok ro e Q k => by
  obtain ⟨a, S1, e1, e⟩ := bnd_inv e
  refine sndE ok ro e1 _ fun v F1 m1 H1 st1 ok1 r1 => ?_
  split at e
  · rename_i i
    cases e
    cases rv_int.mp r1
    exact ⟨i, rfl, k _ _ _ st1 ok1⟩
  · cases e⟩
def cutG {α : Type} (xs : List α) (lo hi : Option Int) : List α := (xs.drop (HT.sIx xs.length 0 lo)).take (HT.sIx xs.length xs.length hi - HT.sIx xs.length 0 lo)
def gSl (md : Md) (a : Val) (lo hi : Option Int) (S : Sto) : Option (Val × Sto) := match a with
  | .d (.str z) => if z.length ≤ sizeLine then some (.d (.str (cutS z lo hi)), S) else none
  | .d (.tuple xs) => some (.d (.tuple (cutG xs lo hi)), S)
  | .t xs => some (.t (cutG xs lo hi), S)
  | a => match viewL S a with
    | some xs => alloc md (cutG xs lo hi) S
    | none => none
theorem pr_cut {α β : Type} {G : α → β → Prop} {xs : List α} {ys : List β} (h : Paired G xs ys) (lo hi : Option Int) : Paired G (cutG xs lo hi) (cutG ys lo hi) := by
  unfold cutG
  rw [pr_len h]
  exact pr_take _ (pr_drop _ h)
theorem cutV_eq (xs : List V) (lo hi : Option Int) : cutV xs lo hi = cutG xs lo hi := rfl
theorem gSl_ok {md : Md} {F H : Hp} {m : List Addr} {S S' : Sto} {a res : Val} {v : V} {l u : Option Int} {Q : VK} (ok : SOk K F m H S) (r : RV K F m a v) (e : gSl md a l u S = some (res, S')) (k : Kt K F m H Q res S') : (rSlS v l u H Q ∨ rSlL K v l u H Q) ∨ rSlA K v l u H Q := by
  unfold gSl at e
  split at e
  · rename_i z
    split at e
    · rename_i hz
      cases e
      cases rv_str.mp r
      exact .inl (.inl ⟨z, rfl, hz, k.here ok (rv_str.mpr rfl)⟩)
    · cases e
  · rename_i xs
    cases e
    obtain ⟨p, ws, rfl, q1, q2⟩ := rv_tuple.mp r
    have hc := pr_cut q2 l u
    refine .inr ⟨p, ws, rfl, same_t ok.ex q1, fun hw => ?_, fun hw q hq => ?_⟩
    · have : cutG xs l u = xs := by
        unfold cutG
        rw [pr_len q2, hw.1, hw.2, List.drop_zero, Nat.sub_zero, ← pr_len q2, List.take_length]
      rw [this] at k
      exact k.here ok r
    · rw [cutV_eq]
      obtain ⟨h1, h2⟩ := al_F (o := .tup (cutG ws l u)) ok hq
      exact k _ _ _ _ h2 h1 (rv_tuple.mpr ⟨q, _, rfl, upd_same, pr_mono (fun x v => rp_mono h2.ex x v) hc⟩)
  · rename_i xs
    cases e
    obtain ⟨p, ws, rfl, q1, q2⟩ := rv_t.mp r
    have hc := pr_cut q2 l u
    refine .inr ⟨p, ws, rfl, same_t ok.ex q1, fun hw => ?_, fun hw q hq => ?_⟩
    · have : cutG xs l u = xs := by
        unfold cutG
        rw [pr_len q2, hw.1, hw.2, List.drop_zero, Nat.sub_zero, ← pr_len q2, List.take_length]
      rw [this] at k
      exact k.here ok r
    · rw [cutV_eq]
      obtain ⟨h1, h2⟩ := al_F (o := .tup (cutG ws l u)) ok hq
      exact k _ _ _ _ h2 h1 (rv_t.mpr ⟨q, _, rfl, upd_same, rvs_mono h2 hc⟩)
  · split at e
    · rename_i xs h1
      obtain ⟨p, ws, rfl, q1, q2⟩ := viewL_ok ok h1 r
      refine .inl (.inr ⟨p, ws, rfl, q1, fun q hq => ?_⟩)
      rw [cutV_eq]
      exact alloc_ok ok (pr_cut q2 l u) e k hq
    · cases e
def eSl (md : Md) (fa : Ef) (fl fh : Of) : Ef := fun ρ S => bnd (fa ρ S) fun a S1 => bnd (fl ρ S1) fun l S2 => bnd (fh ρ S2) fun u S3 => gSl md a l u S3
theorem ee_sl (md : Md) {lo hi : Option Expr} {p2 : Pos} {fl fh : Of} (ha : EE X a fa) (hl : EO X lo fl) (hh : EO X hi fh) : EE X (.Subscript a (.Slice lo hi none p2) pos) (eSl md fa fl fh) := by
  obtain ⟨tl, hl1, hl2⟩ := hl
  obtain ⟨th, hh1, hh2⟩ := hh
  refine ee_of (pe_slice ((sl_str.or sl_list).or sl_tupA) ha hl1 hh1) fun F m H S ρ σ res S' ok ro e Q k => ?_
  obtain ⟨a, S1, e1, e⟩ := bnd_inv e
  obtain ⟨l, S2, e2, e⟩ := bnd_inv e
  obtain ⟨u, S3, e3, e⟩ := bnd_inv e
  refine sndE ok ro e1 _ fun v F1 m1 H1 st1 ok1 r1 => ?_
  refine hl2 ok1 (ro_mono st1 ro) e2 _ fun F2 m2 H2 st2 ok2 => ?_
  refine hh2 ok2 (ro_mono (st1.trans st2) ro) e3 _ fun F3 m3 H3 st3 ok3 => ?_
  exact gSl_ok ok3 (rv_mono (st2.trans st3) r1) e (k.on ((st1.trans st2).trans st3))
/-- a slice of a tuple that may be the whole -/
def gSlT (a : Val) (lo hi : Option Int) (S : Sto) : Option (Val × Sto) := match a with
  | .d (.tuple xs) => some (.d (.tuple (cutG xs lo hi)), S)
  | _ => none

/-! ### str of an int, of a list -/
def gStr : List Val → Sto → Option (Val × Sto)
  | [.d (.int i)], S => if i.natAbs.log2 < 1920 then some (.d (.str (toString i)), S) else none
  | _, _ => none
theorem cg_str : CallG X (.type "str") gStr := ⟨_, call_str_int, fun F m H S as vs res S' ok rs e Q k => by
  unfold gStr at e
  split at e
  · rename_i i
    split at e
    · rename_i hz
      cases e
      cases rs with
      | cons r1 t =>
        cases t
        cases rv_int.mp r1
        exact ⟨i, rfl, hz, k.here ok (rv_str.mpr rfl)⟩
    · cases e
  · cases e⟩

/-! ### calls of the text's own defs -/
def spOf (K : PySem.W.Frag) (n : Nat) (φ : List Val → Sto → Option (Val × Sto)) : Sp := fun vs H Q _ => ∃ F m as S r S', as.length = n ∧ SOk K F m H S ∧ Paired (RV K F m) as vs ∧ φ as S = some (r, S') ∧ Kt K F m H Q r S'
theorem spOf_len {K : PySem.W.Frag} {n : Nat} {φ : List Val → Sto → Option (Val × Sto)} (vs : List V) (H : Hp) (Q : VK) (E : XK) (h : spOf K n φ vs H Q E) : vs.length = n := by
  obtain ⟨F, m, as, S, r, S', h1, _, h2, _⟩ := h
  rw [← pr_len h2]; exact h1
/-- room for calls, and no display under way -/
structure RoomG (k : Nat) (A : Around) : Prop where
  room : Room k A
  gd : A.guards = some []
theorem RoomG.mono {j k : Nat} {A : Around} (r : RoomG k A) (h : j ≤ k) : RoomG j A := ⟨r.room.mono h, r.gd⟩
/-- a def of the text keeps its promise wherever no display is under way -/
def FnG (P : Program) (w : World) (K : PySem.W.Frag) (mg : Str → Option Value) (base : Heap) (k : Nat) (f : Addr) (fd : FuncData) (ps : List Str) (n : Nat) (φ : List Val → Sto → Option (Val × Sto)) : Prop :=
  ∀ (A : Around) (outer : List PySem.Env) (s : Shared) (H : Hp) (args : Args) (us : List Value) (vs : List V) (Q : VK), RoomG k A → Env0 P w K mg base A outer s H → BindsTo s fd args (ps.zip us) → Vals vs us → spOf K n φ vs H Q E0 →
    codeAny (model P w) A (.call (.ref f) args) (fun r s' => match r with
      | .ok (.ret u) => CE outer P w H s Q u s'
      | _ => False) s
/-- the def named x stands and keeps its promise -/
def DefOk (P : Program) (w : World) (K : PySem.W.Frag) (mg : Str → Option Value) (base : Heap) (k : Nat) (x : Str) (n : Nat) (φ : List Val → Sto → Option (Val × Sto)) : Prop :=
  ∃ f fd ps, ps.length = n ∧ FnG P w K mg base k f fd ps n φ ∧ mg x = some (.ref f) ∧ PySem.W.keepIn K (.ref f) = true ∧ Binds K fd ps []
theorem DefOk.mono {P : Program} {w : World} {K : PySem.W.Frag} {mg : Str → Option Value} {base : Heap} {j k : Nat} {x : Str} {n : Nat} {φ : List Val → Sto → Option (Val × Sto)} (D : DefOk P w K mg base j x n φ) (h : j ≤ k) : DefOk P w K mg base k x n φ := by
  obtain ⟨f, fd, ps, h1, h2, h3⟩ := D
  exact ⟨f, fd, ps, h1, fun A outer s H args us vs Q hr => h2 A outer s H args us vs Q (hr.mono h), h3⟩
def eCall (n : Nat) (φ : List Val → Sto → Option (Val × Sto)) (fs : Af) : Ef := fun ρ S => bnd (fs ρ S) fun as S1 => if as.length = n then φ as S1 else none
theorem ee_call {k n : Nat} {x : Str} {p : Pos} {φ : List Val → Sto → Option (Val × Sto)} (D : DefOk X.prog X.w X.K X.mg X.base k x n φ) (hr : RoomG k X.A) (ha : EA X (e :: es) fs) (hg : Gl X x := by rfl) (hdb : (x == ("__debug__" : Str)) = false := by decide)
    (he : starEach (e :: es) X.env = (false, eval e X.env) :: starEach es X.env := by rfl) (hpl : (backTo pos (starEach es X.env)).any (·.1) = false := by rfl) : EE X (.Call (.Name x p) (e :: es) [] pos) (eCall n φ fs) := by
  obtain ⟨f, fd, ps, hn, F, hm, hk, hb⟩ := D
  have h1 : PE X (.Call (.Name x p) (e :: es) [] pos) (tCB (fun vs H Q => spOf X.K n φ vs H Q E0) (tA X.K fs)) := by
    constructor
    intro pins s σ H Q I h
    refine wpAny_Call_Name_kw (ld_glob I hg hm ?_ hdb)
    refine PySem.W.callWith_K (h₀ := X.base) I.ok.mod.kin hk (thn (ha.run pos pins s σ H _ I h) fun us s1 ⟨vs, H1, I1, rv, q⟩ => ⟨I1.kIn, ?_⟩) he hpl
    have hl : us.length = ps.length := by
      rw [← rv.length, hn]
      exact spOf_len vs H1 Q E0 q
    have hb' := hb s1 us I1.kIn (by rw [List.append_nil]; exact hl)
    rw [List.append_nil] at hb'
    refine wpAny_call (codeAny_mono (F X.A X.stack s1 H1 ⟨us, []⟩ us vs Q hr I1.env0 hb' rv q) fun r s' hq => ?_)
    cases r with
    | error e => exact hq.elim
    | ok fl =>
      cases fl with
      | ret u => exact I1.after hq
      | next => exact hq.elim
      | brk => exact hq.elim
      | cont => exact hq.elim
  refine ee_of h1 fun F0 m H S ρ σ res S' ok ro e Q k' => ?_
  obtain ⟨as, S1, e1, e⟩ := bnd_inv e
  split at e
  · rename_i hl
    refine sndA ok ro e1 _ fun vs F1 m1 H1 st1 ok1 r1 => ?_
    exact ⟨F1, m1, as, S1, res, S', hl, ok1, r1, e, k'.on st1⟩
  · cases e

/-! ### statements -/
inductive Fl where
  | nx | rt (v : Val) | bk | ct
abbrev Sf := Rho → Sto → Option (Fl × Rho × Sto)
def KtS (K : PySem.W.Frag) (F : Hp) (m : List Addr) (H : Hp) (D : Ends) : Fl → Rho → Sto → Prop
  | .nx, ρ', S' => ∀ σ' F' m' H', Stp F m H F' m' H' → SOk K F' m' H' S' → ROk K F' m' ρ' σ' → D.nx σ' H'
  | .bk, ρ', S' => ∀ σ' F' m' H', Stp F m H F' m' H' → SOk K F' m' H' S' → ROk K F' m' ρ' σ' → D.bk σ' H'
  | .ct, ρ', S' => ∀ σ' F' m' H', Stp F m H F' m' H' → SOk K F' m' H' S' → ROk K F' m' ρ' σ' → D.ct σ' H'
  | .rt a, _, S' => ∀ v F' m' H', Stp F m H F' m' H' → SOk K F' m' H' S' → RV K F' m' a v → D.rt v H'
def tS (K : PySem.W.Frag) (f : Sf) : TS := fun D σ H => ∃ F m S ρ fl ρ' S', SOk K F m H S ∧ ROk K F m ρ σ ∧ f ρ S = some (fl, ρ', S') ∧ KtS K F m H D fl ρ' S'
def SndS (K : PySem.W.Frag) (t : TS) (f : Sf) : Prop := ∀ ⦃F m H S ρ σ fl ρ' S'⦄, SOk K F m H S → ROk K F m ρ σ → f ρ S = some (fl, ρ', S') → ∀ D : Ends, KtS K F m H D fl ρ' S' → t D σ H
def SS (X : Cx) (st : Stmt) (f : Sf) : Prop := PS X st (tS X.K f)
def SSs (X : Cx) (st : List Stmt) (f : Sf) : Prop := PSs X st (tS X.K f)
theorem sndS {f : Sf} : SndS K (tS K f) f := fun _ _ _ _ _ _ _ _ _ ok ro e _ k => ⟨_, _, _, _, _, _, _, ok, ro, e, k⟩
variable {st : Stmt} {rest : List Stmt} {u v : Sf}
theorem ss_of {t : TS} (h : PS X st t) (s : SndS X.K t u) : SS X st u := ⟨fun pins s' σ H D I ⟨_, _, _, _, _, _, _, ok, ro, e, k⟩ => h.run pins s' σ H D I (s ok ro e D k)⟩
theorem sss_of {t : TS} (h : PSs X rest t) (s : SndS X.K t u) : SSs X rest u := ⟨fun pins s' σ H D I ⟨_, _, _, _, _, _, _, ok, ro, e, k⟩ => h.run pins s' σ H D I (s ok ro e D k)⟩
theorem KtS.on {F F1 : Hp} {m m1 : List Addr} {H H1 : Hp} {D : Ends} {fl : Fl} {ρ' : Rho} {S' : Sto} (st : Stp F m H F1 m1 H1) (k : KtS K F m H D fl ρ' S') : KtS K F1 m1 H1 D fl ρ' S' := by
  cases fl with
  | nx => exact fun σ' F' m' H' s2 ok ro => k σ' F' m' H' (st.trans s2) ok ro
  | bk => exact fun σ' F' m' H' s2 ok ro => k σ' F' m' H' (st.trans s2) ok ro
  | ct => exact fun σ' F' m' H' s2 ok ro => k σ' F' m' H' (st.trans s2) ok ro
  | rt a => exact fun v F' m' H' s2 ok r => k v F' m' H' (st.trans s2) ok r
def bndS (x : Option (Fl × Rho × Sto)) (f : Sf) : Option (Fl × Rho × Sto) := match x with
  | some (.nx, ρ, S) => f ρ S
  | r => r
def sNil : Sf := fun ρ S => some (.nx, ρ, S)
def sSeq (f g : Sf) : Sf := fun ρ S => bndS (f ρ S) g
theorem sss_nil : SSs X [] sNil := sss_of pss_nil fun F m H S ρ σ fl ρ' S' ok ro e D k => by
  cases e
  exact k σ _ _ _ Stp.refl ok ro
theorem sss_one (h : SS X st u) : SSs X [st] u := pss_one h
theorem sss_cons (h1 : SS X st u) (h2 : SSs X rest v) : SSs X (st :: rest) (sSeq u v) := sss_of (pss_cons h1 h2) fun F m H S ρ σ fl ρ' S' ok ro e D k => by
  have e : bndS (u ρ S) v = some (fl, ρ', S') := e
  cases q : u ρ S with
  | none => rw [q] at e; cases e
  | some r =>
    obtain ⟨fl1, ρ1, S1⟩ := r
    rw [q] at e
    cases fl1 with
    | nx => exact sndS ok ro q _ fun σ' F' m' H' st1 ok1 ro1 => sndS ok1 ro1 e D (k.on st1)
    | bk => cases e; exact sndS ok ro q _ k
    | ct => cases e; exact sndS ok ro q _ k
    | rt a => cases e; exact sndS ok ro q _ k
theorem ss_pass : SS X (.Pass pos) sNil := ss_of ps_pass fun F m H S ρ σ fl ρ' S' ok ro e D k => by
  cases e
  exact k σ _ _ _ Stp.refl ok ro
def sBrk : Sf := fun ρ S => some (.bk, ρ, S)
def sCnt : Sf := fun ρ S => some (.ct, ρ, S)
theorem ss_break : SS X (.Break pos) sBrk := ss_of ps_break fun F m H S ρ σ fl ρ' S' ok ro e D k => by
  cases e
  exact k σ _ _ _ Stp.refl ok ro
theorem ss_continue : SS X (.Continue pos) sCnt := ss_of ps_continue fun F m H S ρ σ fl ρ' S' ok ro e D k => by
  cases e
  exact k σ _ _ _ Stp.refl ok ro
def sExpr (f : Ef) : Sf := fun ρ S => match f ρ S with
  | some (_, S1) => some (.nx, ρ, S1)
  | none => none
theorem ss_expr (ha : EE X a fa) (hs : swapsWith a none pos.line X.env = pure false := by rfl) : SS X (.Expr a pos) (sExpr fa) := ss_of (ps_expr ha hs) fun F m H S ρ σ fl ρ' S' ok ro e D k => by
  unfold sExpr at e
  split at e
  · rename_i r S1 q
    cases e
    exact sndE ok ro q _ fun v F1 m1 H1 st1 ok1 r1 => k σ _ _ _ st1 ok1 (ro_mono st1 ro)
  · cases e
def sRet (f : Ef) : Sf := fun ρ S => match f ρ S with
  | some (r, S1) => some (.rt r, ρ, S1)
  | none => none
theorem ss_ret (ha : EE X a fa) : SS X (.Return (some a) pos) (sRet fa) := ss_of (ps_ret ha) fun F m H S ρ σ fl ρ' S' ok ro e D k => by
  unfold sRet at e
  split at e
  · rename_i r S1 q
    cases e
    exact sndE ok ro q _ fun v F1 m1 H1 st1 ok1 r1 => k v _ _ _ st1 ok1 r1
  · cases e
def sRetN : Sf := fun ρ S => some (.rt (.d .none), ρ, S)
theorem ss_retN : SS X (.Return none pos) sRetN := ss_of ps_retN fun F m H S ρ σ fl ρ' S' ok ro e D k => by
  cases e
  exact k _ _ _ _ Stp.refl ok (rv_none.mpr rfl)
def sIf (f : Tf) (u v : Sf) : Sf := fun ρ S => match f ρ S with
  | some (c, S1) => if c = true then u ρ S1 else v ρ S1
  | none => none
theorem ss_if {s1 s2 : List Stmt} (hc : ET X c f) (ha : SSs X s1 u) (hb : SSs X s2 v) : SS X (.If c s1 s2 pos) (sIf f u v) := ss_of (ps_if hc ha hb) fun F m H S ρ σ fl ρ' S' ok ro e D k => by
  unfold sIf at e
  split at e
  · rename_i r S1 q
    refine sndT ok ro q _ fun F1 m1 H1 st1 ok1 => ?_
    cases r with
    | true => exact iteT (sndS ok1 (ro_mono st1 ro) e D (k.on st1))
    | false => exact iteF (sndS ok1 (ro_mono st1 ro) e D (k.on st1))
  · cases e
/-! ### targets -/
abbrev Gf := Val → Rho → Sto → Option (Rho × Sto)
def tG (K : PySem.W.Frag) (g : Gf) : TG := fun v σ H Q => ∃ F m S ρ a ρ' S', SOk K F m H S ∧ ROk K F m ρ σ ∧ RV K F m a v ∧ g a ρ S = some (ρ', S') ∧ ∀ σ' F' m' H', Stp F m H F' m' H' → SOk K F' m' H' S' → ROk K F' m' ρ' σ' → Q σ' H'
def EG (X : Cx) (target : Expr) (g : Gf) : Prop := PG X target (tG X.K g)
def SndG (K : PySem.W.Frag) (t : TG) (g : Gf) : Prop := ∀ ⦃F m H S ρ σ a v ρ' S'⦄, SOk K F m H S → ROk K F m ρ σ → RV K F m a v → g a ρ S = some (ρ', S') → ∀ Q : L2.St → Hp → Prop, (∀ σ' F' m' H', Stp F m H F' m' H' → SOk K F' m' H' S' → ROk K F' m' ρ' σ' → Q σ' H') → t v σ H Q
theorem eg_of {tg : Expr} {t : TG} {g : Gf} (h : PG X tg t) (s : SndG X.K t g) : EG X tg g := ⟨fun pins s' σ H v u Q I r ⟨_, _, _, _, _, _, _, ok, ro, ra, e, k⟩ => h.run pins s' σ H v u Q I r (s ok ro ra e Q k)⟩
theorem sndG {g : Gf} : SndG K (tG K g) g := fun _ _ _ _ _ _ _ _ _ _ ok ro ra e _ k => ⟨_, _, _, _, _, _, _, ok, ro, ra, e, k⟩
def gN (i : Nat) : Gf := fun a ρ S => some (ρ.set i (some a), S)
theorem eg_name (i : Nat) {x : Str} (hN : X.N.Nodup) (hi : X.N[i]? = some x := by rfl) (hx : Loc X.env.scope x := by first | exact Or.inl rfl | exact Or.inr rfl) (hf : X.fn x = true ∨ X.env.scope.names.lookup x = some .local := by first | exact .inl rfl | exact .inr rfl) : EG X (.Name x pos) (gN i) := eg_of (pg_name hN hi hx hf) fun F m H S ρ σ a v ρ' S' ok ro ra e Q k => by
  cases e
  exact k _ _ _ _ Stp.refl ok (ro.set ra i)
abbrev Gs := List Val → Rho → Sto → Option (Rho × Sto)
def SndGs (K : PySem.W.Frag) (t : TGs) (g : Gs) : Prop := ∀ ⦃F m H S ρ σ as vs ρ' S'⦄, SOk K F m H S → ROk K F m ρ σ → Paired (RV K F m) as vs → g as ρ S = some (ρ', S') → ∀ Q : L2.St → Hp → Prop, (∀ σ' F' m' H', Stp F m H F' m' H' → SOk K F' m' H' S' → ROk K F' m' ρ' σ' → Q σ' H') → t vs σ H Q
def EGs (X : Cx) (ts : List Expr) (g : Gs) : Prop := ∃ t, PGs X ts t ∧ SndGs X.K t g
def gsNil : Gs := fun as ρ S => match as with
  | [] => some (ρ, S)
  | _ => none
def gsCons (g : Gf) (r : Gs) : Gs := fun as ρ S => match as with
  | a :: as => match g a ρ S with
    | some (ρ1, S1) => r as ρ1 S1
    | none => none
  | [] => none
theorem egs_nil : EGs X [] gsNil := ⟨_, pgs_nil, fun F m H S ρ σ as vs ρ' S' ok ro ra e Q k => by
  unfold gsNil at e
  split at e
  · cases e
    cases ra
    exact ⟨rfl, k _ _ _ _ Stp.refl ok ro⟩
  · cases e⟩
theorem egs_cons {g : Gf} {r : Gs} {ts : List Expr} (h1 : EG X a g) (h2 : EGs X ts r) (hs : (assignEach (a :: ts) X.env).map (·.2) = assign a X.env :: (assignEach ts X.env).map (·.2) := by rfl) : EGs X (a :: ts) (gsCons g r) := by
  obtain ⟨t, q1, q2⟩ := h2
  refine ⟨_, pgs_cons h1 q1 hs, fun F m H S ρ σ as vs ρ' S' ok ro ra e Q k => ?_⟩
  unfold gsCons at e
  split at e
  · split at e
    · rename_i ρ1 S1 h3
      cases ra with
      | cons r1 rr =>
        refine ⟨_, _, rfl, sndG ok ro r1 h3 _ fun σ1 F1 m1 H1 st1 ok1 ro1 => ?_⟩
        exact q2 ok1 ro1 (rvs_mono st1 rr) e Q fun σ' F' m' H' s2 => k σ' F' m' H' (st1.trans s2)
    · cases e
  · cases e
def gTu (n : Nat) (r : Gs) : Gf := fun a ρ S => match a with
  | .d (.tuple xs) => if xs.length = n then r (xs.map .d) ρ S else none
  | .t xs => if xs.length = n then r xs ρ S else none
  | _ => none
theorem eg_tup {ts : List Expr} {kk n : Nat} {r : Gs} (h : EGs X ts r) (hc : X.calm = true := by rfl) (hn : (assignEach ts X.env).length = n := by rfl) (hst : (assignEach ts X.env).findIdx? (·.1) = none := by rfl) : EG X (.Tuple ts kk pos) (gTu n r) := by
  obtain ⟨t, q1, q2⟩ := h
  refine eg_of (pg_tup hc q1 hn hst) fun F m H S ρ σ a v ρ' S' ok ro ra e Q k => ?_
  unfold gTu at e
  split at e
  · split at e
    · rename_i hl
      obtain ⟨p, ws, rfl, h1, h2⟩ := rv_tuple.mp ra
      exact ⟨p, ws, rfl, same_t ok.ex h1, by rw [← pr_len h2]; exact hl, q2 ok ro (rp_rvs h2) e Q k⟩
    · cases e
  · split at e
    · rename_i hl
      obtain ⟨p, ws, rfl, h1, h2⟩ := rv_t.mp ra
      exact ⟨p, ws, rfl, same_t ok.ex h1, by rw [← pr_len h2]; exact hl, q2 ok ro h2 e Q k⟩
    · cases e
  · cases e
/-- xs[i] = v -/
def setIx (a i : Val) (v : Val) (S : Sto) : Option Sto := match a, i with
  | .c k, .d (.int j) => match S[k]? with
    | some (.lst xs) => match ixN xs.length j with
      | some n => some (S.set k (.lst (xs.set n v)))
      | none => none
    | _ => none
  | _, _ => none
theorem setIx_ok {F H : Hp} {m : List Addr} {S S' : Sto} {a i x : Val} {o iv v : V} (ok : SOk K F m H S) (ra : RV K F m a o) (ri : RV K F m i iv) (rx : RV K F m x v) (e : setIx a i x S = some S') {Q : Hp → Prop} (k : ∀ F' m' H', Stp F m H F' m' H' → SOk K F' m' H' S' → Q H') : rSetL o iv v H Q := by
  unfold setIx at e
  split at e
  · rename_i kk j
    split at e
    · rename_i xs h1
      split at e
      · rename_i n h2
        cases e
        obtain ⟨p, hm, rfl⟩ := ra
        cases rv_int.mp ri
        obtain ⟨hF, ws, h3, h4⟩ := ok.cell _ _ _ hm h1
        refine ⟨p, ws, j, n, rfl, rfl, h3, by rw [← pr_len h4]; exact h2, ?_⟩
        obtain ⟨ok2, st2⟩ := al_M ok hm h1 (pr_set rx n h4)
        exact k _ _ _ st2 ok2
      · cases e
    · cases e
  · cases e
def gSub2 (fo fi : Ef) : Gf := fun v ρ S => match fo ρ S with
  | some (o, S1) => match fi ρ S1 with
    | some (i, S2) => match setIx o i v S2 with
      | some S3 => some (ρ, S3)
      | none => none
    | none => none
  | none => none
theorem eg_sub {fo fi : Ef} (ho : EE X a fo) (hi : EE X b fi)
    (hs : ∀ v, assign (.Subscript a b pos) X.env v = (do
      let ov ← holding [v] (eval a X.env)
      let iv ← holding [v, ov] (eval b X.env)
      standAt pos
      holding [v, ov, iv] (setItem ov iv v)
      release [v, ov, iv] []) := by intro _; rfl) : EG X (.Subscript a b pos) (gSub2 fo fi) := eg_of (pg_sub ho hi set_list hs) fun F m H S ρ σ x v ρ' S' ok ro ra e Q k => by
  unfold gSub2 at e
  split at e
  · rename_i o S1 h1
    split at e
    · rename_i i S2 h2
      split at e
      · rename_i S3 h3
        cases e
        refine sndE ok ro h1 _ fun ov F1 m1 H1 st1 ok1 r1 => ?_
        refine sndE ok1 (ro_mono st1 ro) h2 _ fun iv F2 m2 H2 st2 ok2 r2 => ?_
        have stt := st1.trans st2
        exact setIx_ok ok2 (rv_mono st2 r1) r2 (rv_mono stt ra) h3 fun F' m' H' st3 ok3 => k _ _ _ _ (stt.trans st3) ok3 (ro_mono (stt.trans st3) ro)
      · cases e
    · cases e
  · cases e
def sAsg (f : Ef) (g : Gf) : Sf := fun ρ S => match f ρ S with
  | some (a, S1) => match g a ρ S1 with
    | some (ρ2, S2) => some (.nx, ρ2, S2)
    | none => none
  | none => none
theorem snd_asg {t : TE} {tg : TG} {g : Gf} (ht : SndE K t fa) (hg : SndG K tg g) : SndS K (tAsg t tg) (sAsg fa g) := fun F m H S ρ σ fl ρ' S' ok ro e D k => by
  unfold sAsg at e
  split at e
  · rename_i a S1 h1
    split at e
    · rename_i ρ2 S2 h2
      cases e
      refine ht ok ro h1 _ fun v F1 m1 H1 st1 ok1 r1 => ?_
      exact hg ok1 (ro_mono st1 ro) r1 h2 _ fun σ' F' m' H' s2 => k σ' F' m' H' (st1.trans s2)
    · cases e
  · cases e
theorem ss_asg {tg : Expr} {g : Gf} (ha : EE X a fa) (hg : EG X tg g) (hs : swapsWithSole [tg] a pos.line X.env = pure false := by rfl) (hw : swappedStores [tg] a X.env = pure none := by rfl)
    (h1 : (assignEach [tg] X.env).map (·.2) = [assign tg X.env] := by rfl) : SS X (.Assign [tg] a pos) (sAsg fa g) := ss_of (ps_asg ha hg hs hw h1) (snd_asg sndE sndG)
theorem sndN (i : Nat) : SndG K (gName i) (gN i) := fun F m H S ρ σ a v ρ' S' ok ro ra e Q k => by
  cases e
  exact k _ _ _ _ Stp.refl ok (ro.set ra i)
theorem ss_set (i : Nat) {x : Str} {pos' : Pos} (hN : X.N.Nodup) (ha : EE X a fa) (hi : X.N[i]? = some x := by rfl) (hx : Loc X.env.scope x := by first | exact Or.inl rfl | exact Or.inr rfl) (hs : swapsWith a (some (.Name x pos')) pos.line X.env = pure false := by rfl) (hf : X.fn x = true ∨ X.env.scope.names.lookup x = some .local := by first | exact .inl rfl | exact .inr rfl) :
    SS X (.Assign [.Name x pos'] a pos) (sAsg fa (gN i)) := ss_of (ps_set hN hi hx ha hs hf) (snd_asg sndE (sndN i))
/-- a, b = x, y -/
def sPar (i j : Nat) (fs : Af) : Sf := fun ρ S => match fs ρ S with
  | some ([a, b], S1) => some (.nx, (ρ.set i (some a)).set j (some b), S1)
  | _ => none
theorem ss_par (i j : Nat) {x y : Str} {px py pt pt2 : Pos} {kt k2 : Nat} (hN : X.N.Nodup) (ha : EA X [a, b] fs) (hc : X.calm = true := by rfl) (hi : X.N[i]? = some x := by rfl) (hj : X.N[j]? = some y := by rfl) (hij : i ≠ j := by decide)
    (hx : X.env.scope.names.lookup x = some .local := by rfl) (hy : X.env.scope.names.lookup y = some .local := by rfl)
    (hw : swappedStores [.Tuple [.Name x px, .Name y py] kt pt] (.Tuple [a, b] k2 pt2) X.env = pure (some [x, y]) := by rfl)
    (hs : swapsWithSole [.Tuple [.Name x px, .Name y py] kt pt] (.Tuple [a, b] k2 pt2) pos.line X.env = pure false := by rfl) :
    SS X (.Assign [.Tuple [.Name x px, .Name y py] kt pt] (.Tuple [a, b] k2 pt2) pos) (sPar i j fs) := ss_of (ps_par hc hN hi hj hij hx hy ha hw hs) fun F m H S ρ σ fl ρ' S' ok ro e D k => by
  unfold sPar at e
  split at e
  · rename_i p q S1 h1
    cases e
    refine sndA ok ro h1 _ fun vs F1 m1 H1 st1 ok1 r1 => ?_
    cases r1 with
    | cons ra t =>
      cases t with
      | cons rb t =>
        cases t
        exact ⟨_, _, rfl, k _ _ _ _ st1 ok1 (((ro_mono st1 ro).set ra i).set rb j)⟩
  · cases e
end
end QL

namespace QL
open PySem PySem.Spec PyProof.Rows L2
open AutoSeq1 (wpAny_loadPart')
/-! ### enumerate of a tuple -/
theorem meets_enumT (l : Addr) (items : Array Value) (n : Nat) (dct : Option Addr) (sl : Array (Option Value)) :
    Meets (Builtin.«enumerate.__new__» ⟨[.type "enumerate", .ref l], []⟩) (fun _ R s => s.heap.get? l = some { cls := .type "tuple", dict := dct, data := .seq items n, slots := sl } ∧
      R (.ok (.ret (.ref (s.heap.push { cls := .type "tuple_iterator", data := .fields #[.ref l, .int 0 0] }).objs.size)))
        { s with heap := (s.heap.push { cls := .type "tuple_iterator", data := .fields #[.ref l, .int 0 0] }).push { cls := .type "enumerate", data := .fields #[.none, .bool false, .ref s.heap.objs.size, rawInt 0, .none, .none] } }) :=
  .of_wp fun prog w A R s h => by
    obtain ⟨hp, g, d, tk, os⟩ := s; obtain ⟨hl, h⟩ := h
    have hsub := sub_enumerate
    have hL : Heap.IsTuple (Shared.heap ⟨hp, g, d, tk, os⟩) l items := ⟨_, hl, rfl, n, rfl⟩
    wp_walk using wpAny_loadPart' hl
    refine wpAny_stack_any fun st => wpAny_pure ?_
    split
    · rename_i c _ _ _ _ _
      cases (c == Value.type "enumerate")
      · wp_walk using wpAny_loadPart' hl, wpAny_pyIter_tuple hL
        exact ⟨_, rfl, h⟩
      · wp_walk using wpAny_loadPart' hl, wpAny_pyIter_tuple hL
        exact ⟨_, rfl, h⟩
    · wp_walk using wpAny_loadPart' hl, wpAny_pyIter_tuple hL
      exact ⟨_, rfl, h⟩
theorem call_enumT {prog : Program} {w : World} {A : Around} {E : Value → Shared → Prop} {s : Shared} {l : Addr} {items : Array Value} {Q : Value → Shared → Prop} (hL : s.heap.IsTuple l items)
    (h : ∀ h', IsEnum h' (s.heap.objs.size + 1) s.heap.objs.size 0 .none → h'.IsTupleIter s.heap.objs.size l 0 → h'.objs.size = s.heap.objs.size + 2 →
      (∀ b o, s.heap.get? b = some o → h'.get? b = some o) → Q (.ref (s.heap.objs.size + 1)) { s with heap := h' }) :
    wpAny (model prog w) A (call (.type "enumerate") [.ref l]) Q E s := by
  obtain ⟨⟨c, dct, dt, sl⟩, hl, hc, n, hd⟩ := hL
  replace hc : c = .type "tuple" := hc
  replace hd : dt = .seq items n := hd
  subst hc hd
  refine callType_new F.called_enumerate (by decide) (F.typeCall_enumerate_1 _) (F.newCall_enumerate_1 _) (fun obj => F.args_object_init_2 obj _) F.entry_enumerate_new
    (meets_enumT l items n dct sl) ⟨hl, ?_⟩
  have hz : (s.heap.push { cls := .type "tuple_iterator", data := .fields #[.ref l, .int 0 0] }).objs.size = s.heap.objs.size + 1 := Heap.size_push ..
  show _ ∧ _
  rw [hz]
  have he : IsEnum ((s.heap.push { cls := .type "tuple_iterator", data := .fields #[.ref l, .int 0 0] }).push
      { cls := .type "enumerate", data := .fields #[.none, .bool false, .ref s.heap.objs.size, rawInt 0, .none, .none] }) (s.heap.objs.size + 1) s.heap.objs.size 0 .none := by
    have := Heap.get?_push_size (s.heap.push { cls := .type "tuple_iterator", data := .fields #[.ref l, .int 0 0] })
      (o := { cls := .type "enumerate", data := .fields #[.none, .bool false, .ref s.heap.objs.size, rawInt 0, .none, .none] }) rfl
    rw [hz] at this; exact this
  refine ⟨⟨_, he, rfl⟩, h _ he ⟨_, Heap.get?_push_of_some _ (Heap.get?_push_size _ rfl), rfl, rfl⟩ (by rw [Heap.size_push, hz]) fun b o x => Heap.get?_push_of_some _ (Heap.get?_push_of_some _ x)⟩
theorem pyNext_enumT_end {prog : Program} {w : World} {A : Around} {E : Value → Shared → Prop} {s : Shared} {e it l : Addr} {i : Nat} {c : Int} {items : Array Value} {old : Value} {Q : Option Value → Shared → Prop} (hh : A.handled = none)
    (he : IsEnum s.heap e it c old) (hit : s.heap.IsTupleIter it l i) (hl : s.heap.IsTuple l items) (hx : items[i]? = none)
    (hQ : ∀ h', Heap.ExtBut it s.heap h' → Q none { s with heap := h' }) : wpAny (model prog w) A (pyNext (.ref e)) Q E s := by
  have hTy : s.TypeIs (.ref e) "enumerate" := ⟨_, he, rfl⟩
  unfold pyNext
  refine wpAny_bind (wpAny_attempt (wpAny_callSpecial?_slot (name := Str.ofString "__next__") hTy F.slot_enumerate_next
    (wpAny_call_entry F.slot_enumerate_next hTy F.entry_enumerate_next ?_ (F.args_enumerate_next_1 _))))
  show wpAny _ _ (field (.ref e) 2 >>= _) _ _ _
  refine wpAny_bind (wpAny_field he rfl (x := .ref it) rfl ?_)
  refine wpAny_bind (wpAny_nextOf_tuple_end hh hit hl hx fun h' x he' hx' => ?_)
  obtain ⟨o, ho, hc⟩ := hx'
  refine wpAny_bind (wpAny_isInstance (T := "StopIteration") (b := true) ⟨o, ho, hc⟩ isSubtype_stop ?_)
  exact wpAny_pure (hQ _ he')
def IteT (K : PySem.W.Frag) (a : Addr) : It :=
  ⟨fun i H => ∃ (xs : List V) (x : V), SqT K H a xs ∧ xs[i]? = some x, fun i H v H' => ∃ T x, v = .ref T ∧ H T = none ∧ H' = upd H T (.tup [.int (i : Nat), x]) ∧ ∀ xs, SqT K H a xs → xs[i]? = some x, fun i H => ∃ xs : List V, SqT K H a xs ∧ xs.length ≤ i⟩
theorem turn_enumT {P : Program} {w : World} {K : PySem.W.Frag} {elts : List Expr} {kk : Nat} {tpos : Pos} (a e it : Addr) :
    Turn P w K (.Tuple elts kk tpos) (IteT K a) [e, it] e (fun i h => (∃ old, IsEnum h e it ((i : Nat) : Int) old) ∧ h.IsTupleIter it a i ∧ e ≠ it ∧ e ≠ a ∧ a ≠ it) where
  mem := by simp
  obj := fun i h st b hb => by
    obtain ⟨⟨old, he⟩, ⟨o, ho, hc, hd⟩, _⟩ := st
    have e' : b = e ∨ b = it := by simpa using hb
    rcases e' with z | z
    · rw [z]; exact ⟨_, he, fun v q => nomatch q⟩
    · rw [z]; exact ⟨o, ho, fun v q => by rw [hd] at q; cases q⟩
  keep := fun i h h' st k => let ⟨⟨old, he⟩, hi, hne⟩ := st; ⟨⟨old, k e (by simp) _ he⟩, hi.at fun o q => k it (by simp) o q, hne⟩
  item := by
    intro X hP hw hK hc i pins s σ H E I hf st hg
    subst hP hw hK
    obtain ⟨⟨old, he⟩, hit, hne, hea, hai⟩ := st
    obtain ⟨xs, x, hq, hx⟩ := hg
    obtain ⟨its, rv, p, hz⟩ := I.tuple hq
    obtain ⟨u, hu, ru⟩ := rv.get hx
    have hel : e < s.heap.objs.size := Heap.lt_size he
    have hil : it < s.heap.objs.size := by obtain ⟨_, q, _⟩ := hit; exact Heap.lt_size q
    have hlt : i < its.toArray.size := by
      have := (List.getElem?_eq_some_iff.mp hu).1
      simpa using this
    have D : Draws X.prog X.w X.A.in1 it [it, a] its.toArray.size (fun i v => its.toArray[i]? = some v) (fun i h => h.IsTupleIter it a i ∧ h.IsTuple a its.toArray) := Draws.tuple (A := X.A.in1) (I.ok.hd hc) it a hai its.toArray
    refine wpAny_pyNext_enum_itemC D he ⟨hit, p⟩ hlt hne (by simp [hne, hea]) fun x' h' tk hP ho hst' hT hsz hk => ?_
    have hxu : x' = u := by
      have h1 : its.toArray[i]? = some u := by simpa using hu
      rw [h1] at hP
      cases hP
      rfl
    subst hxu
    refine ⟨_, rfl, wpAny_letOwnedTupleGo_enum (s := { s with heap := h', toks := tk + 1 }) ho fun h'' he' sb => ?_⟩
    have hT2 : h''.get? s.heap.objs.size = some { cls := .type "tuple", data := .seq #[.int i tk, x'] } := (sb.2 _ (Nat.ne_of_gt hel)).trans hT
    have new : ObjOk X.prog X.w (upd H s.heap.objs.size (.tup [.int (i : Nat), x])) h'' s.heap.objs.size (.tup [.int (i : Nat), x]) :=
      ⟨by show 2 ≤ sizeLine; decide, [.int i tk, x'], .cons ⟨_, rfl⟩ (.cons ru .nil), ⟨_, hT2, rfl, _, rfl⟩⟩
    have I1 : Inv X pins σ (upd H s.heap.objs.size (.tup [.int (i : Nat), x])) { s with heap := h'', toks := tk + 1 } :=
      I.turnedNew (ch := [e, it]) (fun b ob hb q => (sb.2 b (fun z => hb (by simp [z]))).trans (hk b ob (fun z => hb (by simp [z])) (fun z => hb (by simp [z])) q)) hf (Nat.le_refl _) new
    refine ⟨.ref s.heap.objs.size, _, I1, rfl, ⟨_, x, rfl, I.hok.fresh (Nat.le_refl _), rfl, fun ys hy => by rw [I.tuple_inj hy hq]; exact hx⟩, ⟨⟨x', ?_⟩, hst'.1.at fun o q => (sb.2 it (Ne.symm hne)).trans q, hne, hea, hai⟩, fun b hb => ?_⟩
    · have e1 : ((i + 1 : Nat) : Int) = (i : Int) + 1 := by omega
      rw [e1]; exact he'
    · have hb' : b < s.heap.objs.size := by
        have e' : b = e ∨ b = it := by simpa using hb
        rcases e' with z | z
        · rw [z]; exact hel
        · rw [z]; exact hil
      rw [upd_ne (Nat.ne_of_lt hb')]
      exact (hf b hb).1
  done := by
    intro X hP hw hK hc i pins s σ H E I hf st hg
    subst hP hw hK
    obtain ⟨⟨old, he⟩, hit, hne, hea, hai⟩ := st
    obtain ⟨xs, hq, hx⟩ := hg
    obtain ⟨its, rv, p, hz⟩ := I.tuple hq
    obtain ⟨f0, f1, f2, f3, f4, f5⟩ := hf it (by simp)
    have hl := rv.length
    exact pyNext_enumT_end (I.ok.hd hc) he hit p (by simp; omega) fun h' eb => ⟨rfl, I.turned (t' := s.toks) (fun b o hb q => eb b o hb q) f0 f1 f3 f4 f5⟩
  self := fun A i s Q E st h => let ⟨⟨_, he⟩, _⟩ := st; wpAny_pyIter_enum he h
def iEnumA (K : PySem.W.Frag) (ta : TA) : TI := fun σ H R => ta σ H fun vs H1 => ∃ a xs, vs = [.ref a] ∧ ((SqL K H1 a xs ∧ R (Ite K a) H1) ∨ (SqT K H1 a xs ∧ R (IteT K a) H1))
theorem pi_enumA {X : Cx} {e : Expr} {ta : TA} {p pos tpos : Pos} {elts : List Expr} {kk : Nat} (hg : Gl X "enumerate") (hm : X.mg "enumerate" = none) (ha : PA X [e] ta) (hs : starEach [e] X.env = [(false, eval e X.env)] := by rfl) :
    PI X (.Tuple elts kk tpos) (.Call (.Name "enumerate" p) [e] [] pos) (iEnumA X.K ta) := by
  refine ⟨fun pins s σ H R I h => ?_⟩
  refine Call_ (ld_blt I hg hm boot_enumerate (PyProof.Rows.callWith_type1 (thn (ha.run pos pins s σ H _ I h) fun us s1 ⟨vs, H1, I1, r1, q1⟩ => ?_) hs rfl))
  obtain ⟨a, xs, ex, q⟩ := q1
  subst ex
  cases r1 with
  | cons r rr =>
    cases rr
    cases r
    have fresh2 : ∀ b ∈ [s1.heap.objs.size + 1, s1.heap.objs.size], FpOk X pins H1 b := fun b hb => by
      have e' : b = s1.heap.objs.size + 1 ∨ b = s1.heap.objs.size := by simpa using hb
      have hle : s1.heap.objs.size ≤ b := by
        rcases e' with z | z
        · rw [z]; exact Nat.le_add_right _ _
        · rw [z]; exact Nat.le_refl _
      exact I1.fpOk hle (I1.hok.fresh hle)
    rcases q with ⟨hq, q⟩ | ⟨hq, q⟩
    · obtain ⟨its, rv, p', hz⟩ := I1.list hq
      refine call_enumerate_list p'.isList fun h' he hit hsz hk => wpAny_pyIter_enum he ?_
      have I2 : Inv X pins σ H1 { s1 with heap := h' } := I1.kept (t' := s1.toks) hk
      exact ⟨s1.heap.objs.size + 1, [s1.heap.objs.size + 1, s1.heap.objs.size], _, _, H1, rfl, I2, turn_enum a (s1.heap.objs.size + 1) s1.heap.objs.size, ⟨⟨.none, he⟩, hit, Nat.succ_ne_self _⟩, fresh2, q⟩
    · obtain ⟨its, rv, p', hz⟩ := I1.tuple hq
      obtain ⟨o1, ho1, _⟩ := id p'
      have hal : a < s1.heap.objs.size := Heap.lt_size ho1
      refine call_enumT p' fun h' he hit hsz hk => wpAny_pyIter_enum he ?_
      have I2 : Inv X pins σ H1 { s1 with heap := h' } := I1.kept (t' := s1.toks) hk
      exact ⟨s1.heap.objs.size + 1, [s1.heap.objs.size + 1, s1.heap.objs.size], _, _, H1, rfl, I2, turn_enumT a (s1.heap.objs.size + 1) s1.heap.objs.size, ⟨⟨.none, he⟩, hit, Nat.succ_ne_self _, Nat.ne_of_gt (Nat.lt_succ_of_lt hal), Nat.ne_of_lt hal⟩, fresh2, q⟩
end QL

namespace QL
open PySem PySem.Spec PyProof.Rows L2
section
variable {X : Cx} {K : PySem.W.Frag} {a b c e : Expr} {es : List Expr} {pos : Pos} {f g h : Tf} {fa fb fc : Ef} {fs : Af} {st : Stmt} {rest : List Stmt} {u v : Sf}
/-! ### a live cell is frozen (nothing runs) -/
def frz1 (a : Val) (S : Sto) : Option (PyData × Sto) := match a with
  | .d x => some (x, S)
  | .c k => match S[k]? with
    | some (.frz x) => some (x, S)
    | some (.lst xs) => (unD xs).map fun ds => (.list ds, S.set k (.frz (.list ds)))
    | _ => none
  | .s _ => none
  | .t _ => none
theorem frz1_ok {F H : Hp} {m : List Addr} {S S' : Sto} {a : Val} {x : PyData} {v : V} (ok : SOk K F m H S) (r : RV K F m a v) (e : frz1 a S = some (x, S')) : ∃ F', Stp F m H F' m H ∧ SOk K F' m H S' ∧ Rp K F' x v := by
  cases a with
  | d y => cases e; exact ⟨F, Stp.refl, ok, r⟩
  | s ns => cases e
  | t xs => cases e
  | c k =>
    obtain ⟨p, hm, rfl⟩ := r
    unfold frz1 at e
    cases q : S[k]? with
    | none => simp only [q] at e; cases e
    | some c =>
      simp only [q] at e
      cases c with
      | dk _ => cases e
      | dt _ => cases e
      | fk _ => cases e
      | ft _ => cases e
      | ins _ _ => cases e
      | frz y => cases e; exact ⟨F, Stp.refl, ok, ok.cell k p _ hm q⟩
      | lst xs =>
        have e : (unD xs).map (fun ds => (PyData.list ds, S.set k (.frz (.list ds)))) = some (x, S') := e
        cases q2 : unD xs with
        | none => rw [q2] at e; cases e
        | some ds =>
          rw [q2] at e; cases e
          obtain ⟨hF, vs, h1, h2⟩ := ok.cell k p _ hm q
          obtain ⟨o1, o2, o3⟩ := al_Z ok hm q h1 (unD_ok q2 h2)
          exact ⟨_, o2, o1, o3⟩
def eFrz (f : Ef) : Ef := fun ρ S => bnd (f ρ S) fun a S1 => match frz1 a S1 with
  | some (x, S2) => some (.d x, S2)
  | none => none
theorem ee_frz (ha : EE X a fa) : EE X a (eFrz fa) := ee_of ha fun F m H S ρ σ res S' ok ro e Q k => by
  obtain ⟨a, S1, e1, e⟩ := bnd_inv e
  refine sndE ok ro e1 _ fun v F1 m1 H1 st1 ok1 r1 => ?_
  split at e
  · rename_i x S2 q
    cases e
    obtain ⟨F2, st2, ok2, r2⟩ := frz1_ok ok1 r1 q
    exact (k.on (st1.trans st2)).here ok2 r2
  · cases e
/-- a name's cell frozen ahead of what follows -/
def sFrz (i : Nat) (u : Sf) : Sf := fun ρ S => match ρ[i]? with
  | some (some a) => match frz1 a S with
    | some (x, S1) => u (ρ.set i (some (.d x))) S1
    | none => none
  | _ => none
theorem sss_frz (i : Nat) (hb : SSs X rest u) : SSs X rest (sFrz i u) := sss_of hb fun F m H S ρ σ fl ρ' S' ok ro e D k => by
  unfold sFrz at e
  split at e
  · rename_i a q
    split at e
    · rename_i x S1 q1
      obtain ⟨w, h1, h2⟩ := ro.get i a q
      obtain ⟨F1, st1, ok1, r1⟩ := frz1_ok ok h2 q1
      have ro1 := (ro_mono st1 ro).set (a := .d x) r1 i
      have e2 : σ.set i (some w) = σ := by
        apply List.ext_getElem?
        intro j
        by_cases hj : i = j
        · subst hj
          rw [List.getElem?_set_self (List.getElem?_eq_some_iff.mp h1).1, h1]
        · rw [List.getElem?_set_ne hj]
      rw [e2] at ro1
      exact sndS ok1 ro1 e D (k.on st1)
    · cases e
  · cases e

/-! ### x op= e -/
def sAug (i : Nat) (g : Val → Val → Sto → Option (Val × Sto)) (f : Ef) : Sf := fun ρ S => match ρ[i]? with
  | some (some x) => match f ρ S with
    | some (y, S1) => match g x y S1 with
      | some (z, S2) => some (.nx, ρ.set i (some z), S2)
      | none => none
    | none => none
  | _ => none
theorem ss_aug (i : Nat) {x : Str} {op : Operator} {pos' : Pos} {g : Val → Val → Sto → Option (Val × Sto)} (hN : X.N.Nodup) (ho : OpG X (inplaceOp op) g) (ha : EE X a fa) (hi : X.N[i]? = some x := by rfl) (hx : Loc X.env.scope x := by first | exact Or.inl rfl | exact Or.inr rfl) (hf : X.fn x = true ∨ X.env.scope.names.lookup x = some .local := by first | exact .inl rfl | exact .inr rfl) :
    SS X (.AugAssign (.Name x pos') op a pos) (sAug i g fa) := by
  obtain ⟨r, h1, h2⟩ := ho
  refine ss_of (ps_aug hN hi hx ha (ti := r) h1 hf) fun F m H S ρ σ fl ρ' S' ok ro e D k => ?_
  unfold sAug at e
  split at e
  · rename_i x q0
    split at e
    · rename_i y S1 q1
      split at e
      · rename_i z S2 q2
        cases e
        obtain ⟨w, h3, h4⟩ := ro.get i x q0
        refine ⟨w, h3, sndE ok ro q1 _ fun v F1 m1 H1 st1 ok1 r1 => ?_⟩
        refine h2 ok1 (rv_mono st1 h4) r1 q2 _ fun v F2 m2 H2 st2 ok2 r2 => ?_
        exact k _ _ _ _ (st1.trans st2) ok2 ((ro_mono (st1.trans st2) ro).set r2 i)
      · cases e
    · cases e
  · cases e
theorem og_iaddI : OpG X (inplaceOp .Add) gAddI := opI0_g iop_add fun _ _ _ => rp_int.mpr rfl
theorem og_isubI : OpG X (inplaceOp .Sub) gSub := opI0_g iop_sub fun _ _ _ => rp_int.mpr rfl
/-- xs[i] op= e of a list -/
def rGetL (K : PySem.W.Frag) : R2 := fun o i H Q => ∃ p xs j x, o = .ref p ∧ i = .int j ∧ SqL K H p xs ∧ atI xs j = some x ∧ Q x H
theorem get_list : PGet X (rGetL X.K) := by
  intro pins s σ H x y v u Q I rx ry h
  obtain ⟨p, xs, i, z, rfl, rfl, hq, he, q⟩ := h
  cases rx
  obtain ⟨t, rfl⟩ := ry
  obtain ⟨its, r, pl, hz⟩ := I.list hq
  obtain ⟨j, h1, h2, h3, h4, h5⟩ := atI_get he
  obtain ⟨w, ew, rw'⟩ := r.get h2
  have hl := r.length
  have hn := line63
  have hsz : its.toArray.size = xs.length := by rw [List.size_toArray, hl]
  have fin : EP X pins σ Q w s := ⟨z, H, I, rw', q⟩
  by_cases h0 : 0 ≤ i
  · have hj : i.toNat = j := Option.some.inj ((seqIndex_of h0 h5).symm.trans h1)
    refine wpAny_getItem_list pl.isList h0 (by omega) ?_ fin
    rw [hj]
    simpa using ew
  · have hj : (i + (its.toArray.size : Int)).toNat = j := by
      rw [hsz]
      exact Option.some.inj ((seqIndex_neg (by omega) h4).symm.trans h1)
    refine wpAny_getItem_list_neg pl.isList (by omega) (by rw [hsz]; omega) (by omega) ?_ fin
    rw [hj]
    simpa using ew
def sAugS (g : Val → Val → Sto → Option (Val × Sto)) (fo fi fe : Ef) : Sf := fun ρ S => match fo ρ S with
  | some (o, S1) => match fi ρ S1 with
    | some (i, S2) => match gIx o i S2 with
      | some (x, S3) => match fe ρ S3 with
        | some (y, S4) => match g x y S4 with
          | some (z, S5) => match setIx o i z S5 with
            | some S6 => some (.nx, ρ, S6)
            | none => none
          | none => none
        | none => none
      | none => none
    | none => none
  | none => none
theorem gIx_list {F H : Hp} {m : List Addr} {S S' : Sto} {k : Nat} {i res : Val} {v w : V} {Q : VK} (ok : SOk K F m H S) (ra : RV K F m (.c k) v) (rb : RV K F m i w) (e : gIx (.c k) i S = some (res, S')) (kk : Kt K F m H Q res S') : rGetL K v w H Q := by
  unfold gIx at e
  split at e
  · rename_i j
    cases rv_int.mp rb
    have e : (match viewQ S (.c k) with | some xs => (atI xs j).map fun x => (x, S) | none => none) = some (res, S') := e
    split at e
    · rename_i xs h1
      cases q : atI xs j with
      | none => rw [q] at e; cases e
      | some x =>
        rw [q] at e; cases e
        obtain ⟨p, ws, rfl, q1, q2⟩ := viewL_ok ok (show viewL S (.c k) = some xs from h1) ra
        obtain ⟨y, h2, h3⟩ := atI_pr q2 q
        exact ⟨p, ws, j, y, rfl, rfl, q1, h2, kk.here ok h3⟩
    · cases e
  · cases e
theorem ss_augS {op : Operator} {tpos : Pos} {g : Val → Val → Sto → Option (Val × Sto)} (hg : OpG X (inplaceOp op) g) (ho : EE X a fa) (hi : EE X b fb) (he : EE X e fc)
    (hs : ∀ ov iv new, augStore b ov iv new = (do holding [new, ov, iv] (setItem ov iv new); release [new, ov, iv] []; pure .next) := by intros; rfl) : SS X (.AugAssign (.Subscript a b tpos) op e pos) (sAugS g fa fb fc) := by
  obtain ⟨r, h1, h2⟩ := hg
  refine ss_of (ps_augS ho hi get_list he (tip := r) h1 set_list hs) fun F m H S ρ σ fl ρ' S' ok ro e D k => ?_
  unfold sAugS at e
  split at e
  · rename_i o S1 q1
    split at e
    · rename_i i S2 q2
      split at e
      · rename_i x S3 q3
        split at e
        · rename_i y S4 q4
          split at e
          · rename_i z S5 q5
            split at e
            · rename_i S6 q6
              cases e
              have hk : ∃ kk, o = .c kk := by
                unfold setIx at q6
                split at q6
                · exact ⟨_, rfl⟩
                · cases q6
              obtain ⟨kk, rfl⟩ := hk
              refine sndE ok ro q1 _ fun v1 F1 m1 H1 st1 ok1 r1 => ?_
              refine sndE ok1 (ro_mono st1 ro) q2 _ fun v2 F2 m2 H2 st2 ok2 r2 => ?_
              refine gIx_list ok2 (rv_mono st2 r1) r2 q3 fun v3 F3 m3 H3 st3 ok3 r3 => ?_
              have s3 := (st1.trans st2).trans st3
              refine sndE ok3 (ro_mono s3 ro) q4 _ fun v4 F4 m4 H4 st4 ok4 r4 => ?_
              refine h2 ok4 (rv_mono st4 r3) r4 q5 _ fun v5 F5 m5 H5 st5 ok5 r5 => ?_
              have s25 := (st3.trans st4).trans st5
              refine setIx_ok ok5 (rv_mono (st2.trans s25) r1) (rv_mono s25 r2) r5 q6 fun F6 m6 H6 st6 ok6 => ?_
              have sall := ((s3.trans st4).trans st5).trans st6
              exact k _ _ _ _ sall ok6 (ro_mono sall ro)
            · cases e
          · cases e
        · cases e
      · cases e
    · cases e
  · cases e

/-! ### methods of lists -/
def RM (K : PySem.W.Frag) (r : V → List V → Hp → VK → Prop) (g : Val → List Val → Sto → Option (Val × Sto)) : Prop := ∀ ⦃F m H S a as v vs res S'⦄, SOk K F m H S → RV K F m a v → Paired (RV K F m) as vs → g a as S = some (res, S') → ∀ Q : VK, Kt K F m H Q res S' → r v vs H Q
def eMt (g : Val → List Val → Sto → Option (Val × Sto)) (fo : Ef) (fs : Af) : Ef := fun ρ S => bnd (fo ρ S) fun o S1 => if (viewL S1 o).isSome = true then bnd (fs ρ S1) fun as S2 => g o as S2 else none
theorem ee_mt {x : Str} {apos : Pos} {id : String} {r : V → List V → Hp → VK → Prop} {g : Val → List Val → Sto → Option (Val × Sto)} (slot : Slot "list" x id) (hty : typeOf (.builtin id) = pure (.type "method_descriptor")) (hm : MtR X id r) (hg : RM X.K r g) (ho : EE X a fa) (ha : EA X (e :: es) fs)
    (hbase : attributeBase a x X.env (eval a X.env) = eval a X.env := by rfl)
    (hfew : ((backTo pos (starEach (e :: es) X.env)).all (fun x => !x.1) && (backToKw pos (keywordEach [] X.env)).all (fun x => x.1.isSome)
      && decide ((e :: es).length + ([] : List Keyword).length + (if ([] : List Keyword).isEmpty then 0 else 1) < 30)) = true := by rfl)
    (hline : (apos.endLine == pos.line) = true := by rfl) (hs : starEach (e :: es) X.env = (false, eval e X.env) :: starEach es X.env := by rfl) (hplain : (backTo pos (starEach es X.env)).any (·.1) = false := by rfl) :
    EE X (.Call (.Attribute a x apos) (e :: es) [] pos) (eMt g fa fs) :=
  ee_of (pe_bm PySem.F.plainAttrs_list slot hty hm ho ha hbase hfew hline hs hplain) fun F m H S ρ σ res S' ok ro e Q k => by
    obtain ⟨o, S1, e1, e⟩ := bnd_inv e
    split at e
    · rename_i hv
      obtain ⟨as, S2, e2, e⟩ := bnd_inv e
      refine sndE ok ro e1 _ fun v F1 m1 H1 st1 ok1 r1 => ?_
      obtain ⟨xs, hv⟩ := Option.isSome_iff_exists.mp hv
      obtain ⟨p, ws, rfl, q1, q2⟩ := viewL_ok ok1 hv r1
      refine ⟨.inl ⟨rfl, ws, q1⟩, sndA ok1 (ro_mono st1 ro) e2 _ fun vs F2 m2 H2 st2 ok2 r2 => ?_⟩
      exact hg ok2 (rv_mono st2 r1) r2 e Q (k.on (st1.trans st2))
    · cases e
def gAppend : Val → List Val → Sto → Option (Val × Sto)
  | .c k, [y], S => match S[k]? with
    | some (.lst xs) => if xs.length < sizeLine then some (.d .none, S.set k (.lst (xs ++ [y]))) else none
    | _ => none
  | _, _, _ => none
theorem rm_append : RM K rAppend gAppend := fun F m H S a as v vs res S' ok ra rs e Q k => by
  unfold gAppend at e
  split at e
  · rename_i kk y
    split at e
    · rename_i xs h1
      split at e
      · rename_i hz
        cases e
        obtain ⟨p, hm, rfl⟩ := ra
        obtain ⟨hF, ws, h3, h4⟩ := ok.cell _ _ _ hm h1
        cases rs with
        | cons r1 t =>
          cases t
          refine ⟨p, ws, _, rfl, rfl, h3, by rw [← pr_len h4]; exact hz, ?_⟩
          obtain ⟨ok2, st2⟩ := al_M ok hm h1 (pr_append h4 (.cons r1 .nil))
          exact k _ _ _ _ st2 ok2 (rv_none.mpr rfl)
      · cases e
    · cases e
  · cases e
theorem ee_append {apos : Pos} (ho : EE X a fa) (ha : EA X [e] fs)
    (hbase : attributeBase a "append" X.env (eval a X.env) = eval a X.env := by rfl)
    (hfew : ((backTo pos (starEach [e] X.env)).all (fun x => !x.1) && (backToKw pos (keywordEach [] X.env)).all (fun x => x.1.isSome)
      && decide ([e].length + ([] : List Keyword).length + (if ([] : List Keyword).isEmpty then 0 else 1) < 30)) = true := by rfl)
    (hline : (apos.endLine == pos.line) = true := by rfl) (hs : starEach [e] X.env = (false, eval e X.env) :: starEach [] X.env := by rfl) (hplain : (backTo pos (starEach [] X.env)).any (·.1) = false := by rfl) :
    EE X (.Call (.Attribute a "append" apos) [e] [] pos) (eMt gAppend fa fs) := ee_mt PySem.F.slot_list_append PySem.F.type_list_append mt_append rm_append ho ha hbase hfew hline hs hplain
def gInsert : Val → List Val → Sto → Option (Val × Sto)
  | .c k, [.d (.int i), y], S => match S[k]? with
    | some (.lst xs) => if xs.length < sizeLine ∧ 0 ≤ i ∧ i < 2 ^ 63 then some (.d .none, S.set k (.lst (xs.take i.toNat ++ [y] ++ xs.drop i.toNat))) else none
    | _ => none
  | _, _, _ => none
def rInsert : V → List V → Hp → VK → Prop := fun x vs H Q => ∃ (l : Addr) (xs : List V) (i : Int) (y : V), x = .ref l ∧ vs = [.int i, y] ∧ H l = some (.lst xs) ∧ xs.length < sizeLine ∧ 0 ≤ i ∧ i < 2 ^ 63 ∧ Q .non (upd H l (.lst (xs.take i.toNat ++ [y] ++ xs.drop i.toNat)))
theorem rm_insert : RM K rInsert gInsert := fun F m H S a as v vs res S' ok ra rs e Q k => by
  unfold gInsert at e
  split at e
  · rename_i kk i y
    split at e
    · rename_i xs h1
      split at e
      · rename_i hz
        cases e
        obtain ⟨p, hm, rfl⟩ := ra
        obtain ⟨hF, ws, h3, h4⟩ := ok.cell _ _ _ hm h1
        cases rs with
        | cons r1 t =>
          cases t with
          | cons r2 t =>
            cases t
            cases rv_int.mp r1
            refine ⟨p, ws, i, _, rfl, rfl, h3, by rw [← pr_len h4]; exact hz.1, hz.2.1, hz.2.2, ?_⟩
            obtain ⟨ok2, st2⟩ := al_M ok hm h1 (pr_append (pr_append (pr_take i.toNat h4) (.cons r2 .nil)) (pr_drop i.toNat h4))
            exact k _ _ _ _ st2 ok2 (rv_none.mpr rfl)
      · cases e
    · cases e
  · cases e
theorem ee_insert {apos : Pos} {e2 : Expr} (ho : EE X a fa) (ha : EA X [e, e2] fs)
    (hbase : attributeBase a "insert" X.env (eval a X.env) = eval a X.env := by rfl)
    (hfew : ((backTo pos (starEach [e, e2] X.env)).all (fun x => !x.1) && (backToKw pos (keywordEach [] X.env)).all (fun x => x.1.isSome)
      && decide ([e, e2].length + ([] : List Keyword).length + (if ([] : List Keyword).isEmpty then 0 else 1) < 30)) = true := by rfl)
    (hline : (apos.endLine == pos.line) = true := by rfl) (hs : starEach [e, e2] X.env = (false, eval e X.env) :: starEach [e2] X.env := by rfl) (hplain : (backTo pos (starEach [e2] X.env)).any (·.1) = false := by rfl) :
    EE X (.Call (.Attribute a "insert" apos) [e, e2] [] pos) (eMt gInsert fa fs) := ee_mt PySem.F.slot_list_insert PySem.F.type_list_insert mt_insert rm_insert ho ha hbase hfew hline hs hplain

/-! ### what is walked -/
abbrev If := Rho → Sto → Option (List PyData × Sto)
def ItOk (K : PySem.W.Frag) (J : It) (F : Hp) (ds : List PyData) : Prop := ∀ i F1 m1 H1 S1, Same F F1 → SOk K F1 m1 H1 S1 → (i < ds.length → J.go i H1) ∧ (ds.length ≤ i → J.stop i H1) ∧
  ∀ x H2, i < ds.length → J.yld i H1 x H2 → ∃ d F2, ds[i]? = some d ∧ Stp F1 m1 H1 F2 m1 H2 ∧ SOk K F2 m1 H2 S1 ∧ Rp K F2 d x ∧ (∀ a o, H1 a = some o → H2 a = some o)
def tI (K : PySem.W.Frag) (f : If) : TI := fun σ H R => ∃ F m S ρ ds S', SOk K F m H S ∧ ROk K F m ρ σ ∧ f ρ S = some (ds, S') ∧ ∀ J F' m' H', Stp F m H F' m' H' → SOk K F' m' H' S' → ItOk K J F' ds → R J H'
def EI (X : Cx) (tg iter : Expr) (f : If) : Prop := PI X tg iter (tI X.K f)
def SndI (K : PySem.W.Frag) (w : TI) (f : If) : Prop := ∀ ⦃F m H S ρ σ ds S'⦄, SOk K F m H S → ROk K F m ρ σ → f ρ S = some (ds, S') → ∀ R : It → Hp → Prop, (∀ J F' m' H', Stp F m H F' m' H' → SOk K F' m' H' S' → ItOk K J F' ds → R J H') → w σ H R
theorem ei_of {tg it : Expr} {t : TI} {f : If} (h : PI X tg it t) (s : SndI X.K t f) : EI X tg it f := ⟨fun pins s' σ H R I ⟨_, _, _, _, _, _, ok, ro, e, k⟩ => h.run pins s' σ H R I (s ok ro e R k)⟩
theorem sndI {f : If} : SndI K (tI K f) f := fun _ _ _ _ _ _ _ _ ok ro e _ k => ⟨_, _, _, _, _, _, ok, ro, e, k⟩
theorem get_lt {α : Type} {xs : List α} {i : Nat} (h : i < xs.length) : ∃ x, xs[i]? = some x := ⟨xs[i], List.getElem?_eq_getElem h⟩
theorem itok_list {F : Hp} {p : Addr} {vs : List V} {ds : List PyData} (h : F p = some (.lst vs)) (hv : Paired (Rp K F) ds vs) : ItOk K (Itl K p) F ds := fun i F1 m1 H1 S1 ex ok => by
  have hq : SqL K H1 p vs := .of (ok.ex _ _ (ex _ _ h))
  refine ⟨fun hi => ?_, fun hi => ⟨vs, hq, by rw [← pr_len hv]; exact hi⟩, fun x H2 hlt hy => ?_⟩
  · obtain ⟨x, hx⟩ := get_lt (xs := vs) (i := i) (by rw [← pr_len hv]; exact hi)
    exact ⟨vs, x, hq, hx⟩
  · obtain ⟨rfl, hy⟩ := hy
    obtain ⟨d, h1, h2⟩ := pr_get' hv (hy vs hq)
    exact ⟨d, F1, h1, Stp.refl, ok, rp_mono ex d x h2, fun _ _ h => h⟩
theorem itok_tup {F : Hp} {p : Addr} {vs : List V} {ds : List PyData} (h : SqT K F p vs) (hv : Paired (Rp K F) ds vs) : ItOk K (Itt K p) F ds := fun i F1 m1 H1 S1 ex ok => by
  have hq : SqT K H1 p vs := same_q ok.ex (same_q ex h)
  refine ⟨fun hi => ?_, fun hi => ⟨vs, hq, by rw [← pr_len hv]; exact hi⟩, fun x H2 hlt hy => ?_⟩
  · obtain ⟨x, hx⟩ := get_lt (xs := vs) (i := i) (by rw [← pr_len hv]; exact hi)
    exact ⟨vs, x, hq, hx⟩
  · obtain ⟨rfl, hy⟩ := hy
    obtain ⟨d, h1, h2⟩ := pr_get' hv (hy vs hq)
    exact ⟨d, F1, h1, Stp.refl, ok, rp_mono ex d x h2, fun _ _ h => h⟩
/-- a list's, a tuple's items (data) -/
def itemsD : Val → Option (List PyData)
  | .d (.list ds) => some ds
  | .d (.tuple ds) => some ds
  | _ => none
def iSq (f : Ef) : If := fun ρ S => match f ρ S with
  | some (a, S1) => match itemsD a with
    | some ds => some (ds, S1)
    | none => none
  | none => none
/-- the walked thing is a list or a tuple -/
def iSeq (K : PySem.W.Frag) (tl : TE) : TI := fun σ H R => tl σ H fun x H1 => ∃ a, x = .ref a ∧ (((∃ xs, SqL K H1 a xs) ∧ R (Itl K a) H1) ∨ ((∃ xs, SqT K H1 a xs) ∧ R (Itt K a) H1))
theorem pi_seq {tg l : Expr} {tl : TE} (hl : PE X l tl) : PI X tg l (iSeq X.K tl) := by
  constructor
  intro pins s σ H R I h
  refine thn (hl.run pins s σ H _ I h) fun v s1 ⟨x, H1, I1, r1, a, ex, q⟩ => ?_
  subst ex
  cases r1
  have fp : ∀ c ∈ [s1.heap.objs.size], FpOk X pins H1 c := fun c hc => by
    rw [List.mem_singleton.mp hc]
    exact I1.fpOk (Nat.le_refl _) I1.fresh
  rcases q with ⟨⟨xs, hq⟩, q⟩ | ⟨⟨xs, hq⟩, q⟩
  · obtain ⟨its, rv, pl, hz⟩ := I1.list hq
    exact wpAny_pyIter_list pl.isList ⟨_, _, _, _, H1, rfl, I1.kept (t' := s1.toks) (fun b o e => Heap.get?_push_of_some _ e), turn_list a _, ⟨_, Heap.get?_push_size _ rfl, rfl, rfl⟩, fp, q⟩
  · obtain ⟨its, rv, pl, hz⟩ := I1.tuple hq
    exact wpAny_pyIter_tuple (show s1.heap.IsTuple a its.toArray from pl) ⟨_, _, _, _, H1, rfl, I1.kept (t' := s1.toks) (fun b o e => Heap.get?_push_of_some _ e), turn_tuple a _, ⟨_, Heap.get?_push_size _ rfl, rfl, rfl⟩, fp, q⟩
theorem ei_seq {tg : Expr} (ha : EE X a fa) : EI X tg a (iSq fa) := ei_of (pi_seq ha) fun F m H S ρ σ ds S' ok ro e R k => by
  unfold iSq at e
  split at e
  · rename_i a S1 q
    split at e
    · rename_i ds q1
      cases e
      refine sndE ok ro q _ fun v F1 m1 H1 st1 ok1 r1 => ?_
      unfold itemsD at q1
      split at q1
      · cases q1
        obtain ⟨p, vs, rfl, h1, h2⟩ := rv_list.mp r1
        exact ⟨p, rfl, .inl ⟨⟨vs, .of (ok1.ex _ _ h1)⟩, k _ _ _ _ st1 ok1 (itok_list h1 h2)⟩⟩
      · cases q1
        obtain ⟨p, vs, rfl, h1, h2⟩ := rv_tuple.mp r1
        exact ⟨p, rfl, .inr ⟨⟨vs, same_t ok1.ex h1⟩, k _ _ _ _ st1 ok1 (itok_tup (.of h1) h2)⟩⟩
      · cases q1
    · cases e
  · cases e
/-- a text's signs -/
def signs (x : Str) : List PyData := x.cps.toList.map fun c => .str ⟨#[c]⟩
def iTx (f : Ef) : If := fun ρ S => match f ρ S with
  | some (.d (.str x), S1) => some (signs x, S1)
  | _ => none
theorem ei_str {tg : Expr} (ha : EE X a fa) : EI X tg a (iTx fa) := ei_of (pi_str ha) fun F m H S ρ σ ds S' ok ro e R k => by
  unfold iTx at e
  split at e
  · rename_i x S1 q
    cases e
    refine sndE ok ro q _ fun v F1 m1 H1 st1 ok1 r1 => ?_
    cases rv_str.mp r1
    refine ⟨x, rfl, k _ _ _ _ st1 ok1 fun i F2 m2 H2 S2 ex ok2 => ?_⟩
    have hl : (signs x).length = x.cps.size := by unfold signs; rw [List.length_map, Array.length_toList]
    refine ⟨fun hi => by rw [hl] at hi; exact hi, fun hi => by rw [hl] at hi; exact hi, fun y H3 hlt hy => ?_⟩
    obtain ⟨rfl, c, hc, rfl⟩ := hy
    refine ⟨.str ⟨#[c]⟩, F2, ?_, Stp.refl, ok2, rp_str.mpr rfl, fun _ _ h => h⟩
    unfold signs
    rw [List.getElem?_map, Array.getElem?_toList, hc]
    rfl
  · cases e
/-- range(n), range(a, b) -/
def rngD (lo : Int) (n : Nat) : List PyData := (List.range n).map fun (i : Nat) => .int (lo + (i : Int))
theorem itok_rng {F : Hp} (lo : Int) (n : Nat) : ItOk K (Itr lo n) F (rngD lo n) := fun i F1 m1 H1 S1 ex ok => by
  have hl : (rngD lo n).length = n := by unfold rngD; rw [List.length_map, List.length_range]
  refine ⟨fun hi => by rw [hl] at hi; exact hi, fun hi => by rw [hl] at hi; exact hi, fun x H2 hlt hy => ?_⟩
  obtain ⟨rfl, rfl⟩ := hy
  rw [hl] at hlt
  refine ⟨.int (lo + i), F1, ?_, Stp.refl, ok, rp_int.mpr rfl, fun _ _ h => h⟩
  unfold rngD
  rw [List.getElem?_map, List.getElem?_range hlt]
  rfl
def small62 (i : Int) : Bool := decide (-(2 ^ 62) ≤ i ∧ i < 2 ^ 62)
def iR1 (fs : Af) : If := fun ρ S => match fs ρ S with
  | some ([.d (.int j)], S1) => if small62 j = true then some (rngD 0 j.toNat, S1) else none
  | _ => none
def iR2 (fs : Af) : If := fun ρ S => match fs ρ S with
  | some ([.d (.int i), .d (.int j)], S1) => if small62 i = true ∧ small62 j = true then some (rngD i (j - i).toNat, S1) else none
  | _ => none
theorem ei_r1 {tg : Expr} {p : Pos} (hm : X.mg "range" = none) (ha : EA X [a] fs) (hg : Gl X "range" := by rfl) (hs : starEach [a] X.env = [(false, eval a X.env)] := by rfl) : EI X tg (.Call (.Name "range" p) [a] [] pos) (iR1 fs) := ei_of (pi_range1 hg hm ha hs) fun F m H S ρ σ ds S' ok ro e R k => by
  unfold iR1 at e
  split at e
  · rename_i j S1 q
    split at e
    · rename_i hj
      cases e
      refine sndA ok ro q _ fun vs F1 m1 H1 st1 ok1 r1 => ?_
      cases r1 with
      | cons r t =>
        cases t
        cases rv_int.mp r
        have hj := of_decide_eq_true hj
        exact ⟨j, rfl, hj.1, hj.2, k _ _ _ _ st1 ok1 (itok_rng 0 j.toNat)⟩
    · cases e
  · cases e
theorem ei_r2 {tg : Expr} {p : Pos} (hm : X.mg "range" = none) (ha : EA X [a, b] fs) (hg : Gl X "range" := by rfl) (hs : starEach [a, b] X.env = [(false, eval a X.env), (false, eval b X.env)] := by rfl) (hs2 : starEach [b] X.env = [(false, eval b X.env)] := by rfl) : EI X tg (.Call (.Name "range" p) [a, b] [] pos) (iR2 fs) := ei_of (pi_range2 hg hm ha hs hs2) fun F m H S ρ σ ds S' ok ro e R k => by
  unfold iR2 at e
  split at e
  · rename_i i j S1 q
    split at e
    · rename_i hj
      cases e
      refine sndA ok ro q _ fun vs F1 m1 H1 st1 ok1 r1 => ?_
      cases r1 with
      | cons r t =>
        cases t with
        | cons r2 t =>
          cases t
          cases rv_int.mp r
          cases rv_int.mp r2
          have h1 := of_decide_eq_true hj.1
          have h2 := of_decide_eq_true hj.2
          exact ⟨i, j, rfl, ⟨h1.1, h1.2, h2.1, h2.2⟩, k _ _ _ _ st1 ok1 (itok_rng i (j - i).toNat)⟩
    · cases e
  · cases e
/-- enumerate(list), zip(list, list): new pairs -/
def enumD : Nat → List PyData → List PyData
  | _, [] => []
  | n, d :: ds => .tuple [.int n, d] :: enumD (n + 1) ds
def zipD : List PyData → List PyData → List PyData
  | d :: ds, e :: es => .tuple [d, e] :: zipD ds es
  | _, _ => []
theorem enumD_len : ∀ (n : Nat) (ds : List PyData), (enumD n ds).length = ds.length
  | _, [] => rfl
  | n, d :: ds => by rw [enumD, List.length_cons, enumD_len (n + 1) ds, List.length_cons]
theorem enumD_get : ∀ (n : Nat) (ds : List PyData) (i : Nat) (d : PyData), ds[i]? = some d → (enumD n ds)[i]? = some (.tuple [.int ((n + i : Nat) : Int), d])
  | _, [], _, _, h => by simp at h
  | n, d :: ds, 0, _, h => by simp at h; subst h; simp [enumD]
  | n, d :: ds, i + 1, x, h => by
    have h' : ds[i]? = some x := by simpa using h
    have q := enumD_get (n + 1) ds i x h'
    rw [enumD, List.getElem?_cons_succ, q, show n + 1 + i = n + (i + 1) by omega]
theorem zipD_len : ∀ (ds es : List PyData), (zipD ds es).length = min ds.length es.length
  | [], _ => by simp [zipD]
  | _ :: _, [] => by simp [zipD]
  | d :: ds, e :: es => by rw [zipD, List.length_cons, zipD_len ds es, List.length_cons, List.length_cons]; omega
theorem zipD_get : ∀ (ds es : List PyData) (i : Nat) (d e : PyData), ds[i]? = some d → es[i]? = some e → (zipD ds es)[i]? = some (.tuple [d, e])
  | [], _, _, _, _, h, _ => by simp at h
  | _ :: _, [], _, _, _, _, h => by simp at h
  | d :: ds, e :: es, 0, _, _, h, h' => by simp at h h'; subst h; subst h'; simp [zipD]
  | d :: ds, e :: es, i + 1, x, y, h, h' => by
    rw [zipD, List.getElem?_cons_succ]
    exact zipD_get ds es i x y (by simpa using h) (by simpa using h')
theorem itok_enum {F : Hp} {p : Addr} {vs : List V} {ds : List PyData} (h : F p = some (.lst vs)) (hv : Paired (Rp K F) ds vs) : ItOk K (Ite K p) F (enumD 0 ds) := fun i F1 m1 H1 S1 ex ok => by
  have hq : SqL K H1 p vs := .of (ok.ex _ _ (ex _ _ h))
  rw [enumD_len]
  refine ⟨fun hi => ?_, fun hi => ⟨vs, hq, by rw [← pr_len hv]; exact hi⟩, fun x H2 hlt hy => ?_⟩
  · obtain ⟨x, hx⟩ := get_lt (xs := vs) (i := i) (by rw [← pr_len hv]; exact hi)
    exact ⟨vs, x, hq, hx⟩
  · obtain ⟨T, x, rfl, hT, rfl, hy⟩ := hy
    obtain ⟨d, h1, h2⟩ := pr_get' hv (hy vs hq)
    obtain ⟨o1, o2⟩ := al_F (o := .tup [.int (i : Nat), x]) ok hT
    have q := enumD_get 0 ds i d h1
    rw [Nat.zero_add] at q
    exact ⟨_, _, q, o2, o1, rp_tuple.mpr ⟨T, _, rfl, upd_same, .cons (rp_int.mpr rfl) (.cons (rp_mono (ex.trans o2.ex) d x h2) .nil)⟩, fun b o hb => by rw [upd_ne (ne_of_none hb hT)]; exact hb⟩
theorem itok_enumT {F : Hp} {p : Addr} {vs : List V} {ds : List PyData} (h : SqT K F p vs) (hv : Paired (Rp K F) ds vs) : ItOk K (IteT K p) F (enumD 0 ds) := fun i F1 m1 H1 S1 ex ok => by
  have hq : SqT K H1 p vs := same_q ok.ex (same_q ex h)
  rw [enumD_len]
  refine ⟨fun hi => ?_, fun hi => ⟨vs, hq, by rw [← pr_len hv]; exact hi⟩, fun x H2 hlt hy => ?_⟩
  · obtain ⟨x, hx⟩ := get_lt (xs := vs) (i := i) (by rw [← pr_len hv]; exact hi)
    exact ⟨vs, x, hq, hx⟩
  · obtain ⟨T, x, rfl, hT, rfl, hy⟩ := hy
    obtain ⟨d, h1, h2⟩ := pr_get' hv (hy vs hq)
    obtain ⟨o1, o2⟩ := al_F (o := .tup [.int (i : Nat), x]) ok hT
    have q := enumD_get 0 ds i d h1
    rw [Nat.zero_add] at q
    exact ⟨_, _, q, o2, o1, rp_tuple.mpr ⟨T, _, rfl, upd_same, .cons (rp_int.mpr rfl) (.cons (rp_mono (ex.trans o2.ex) d x h2) .nil)⟩, fun b o hb => by rw [upd_ne (ne_of_none hb hT)]; exact hb⟩
theorem itok_zip {F : Hp} {p p' : Addr} {vs vs' : List V} {ds ds' : List PyData} (h : F p = some (.lst vs)) (hv : Paired (Rp K F) ds vs) (h' : F p' = some (.lst vs')) (hv' : Paired (Rp K F) ds' vs') : ItOk K (Itz K p p') F (zipD ds ds') := fun i F1 m1 H1 S1 ex ok => by
  have hq : SqL K H1 p vs := .of (ok.ex _ _ (ex _ _ h))
  have hq' : SqL K H1 p' vs' := .of (ok.ex _ _ (ex _ _ h'))
  have l1 := pr_len hv
  have l2 := pr_len hv'
  rw [zipD_len]
  refine ⟨fun hi => ?_, fun hi => ⟨vs, vs', hq, hq', by omega⟩, fun x H2 hlt hy => ?_⟩
  · obtain ⟨x, hx⟩ := get_lt (xs := vs) (i := i) (by omega)
    obtain ⟨y, hy⟩ := get_lt (xs := vs') (i := i) (by omega)
    exact ⟨vs, vs', x, y, hq, hq', hx, hy⟩
  · obtain ⟨T, x, y, rfl, hT, rfl, hy, hy'⟩ := hy
    obtain ⟨d, h1, h2⟩ := pr_get' hv (hy vs hq)
    obtain ⟨d', h1', h2'⟩ := pr_get' hv' (hy' vs' hq')
    obtain ⟨o1, o2⟩ := al_F (o := .tup [x, y]) ok hT
    exact ⟨_, _, zipD_get ds ds' i d d' h1 h1', o2, o1, rp_tuple.mpr ⟨T, _, rfl, upd_same, .cons (rp_mono (ex.trans o2.ex) d x h2) (.cons (rp_mono (ex.trans o2.ex) d' y h2') .nil)⟩, fun b o hb => by rw [upd_ne (ne_of_none hb hT)]; exact hb⟩
theorem itok_zipT {F : Hp} {p p' : Addr} {vs vs' : List V} {ds ds' : List PyData} (h : SqT K F p vs) (hv : Paired (Rp K F) ds vs) (h' : SqT K F p' vs') (hv' : Paired (Rp K F) ds' vs') : ItOk K (RZ.ItzT K p p') F (zipD ds ds') := fun i F1 m1 H1 S1 ex ok => by
  have hq : SqT K H1 p vs := same_q ok.ex (same_q ex h)
  have hq' : SqT K H1 p' vs' := same_q ok.ex (same_q ex h')
  have l1 := pr_len hv
  have l2 := pr_len hv'
  rw [zipD_len]
  refine ⟨fun hi => ?_, fun hi => ⟨vs, vs', hq, hq', by omega⟩, fun x H2 hlt hy => ?_⟩
  · obtain ⟨x, hx⟩ := get_lt (xs := vs) (i := i) (by omega)
    obtain ⟨y, hy⟩ := get_lt (xs := vs') (i := i) (by omega)
    exact ⟨vs, vs', x, y, hq, hq', hx, hy⟩
  · obtain ⟨T, x, y, rfl, hT, rfl, hy, hy'⟩ := hy
    obtain ⟨d, h1, h2⟩ := pr_get' hv (hy vs hq)
    obtain ⟨d', h1', h2'⟩ := pr_get' hv' (hy' vs' hq')
    obtain ⟨o1, o2⟩ := al_F (o := .tup [x, y]) ok hT
    exact ⟨_, _, zipD_get ds ds' i d d' h1 h1', o2, o1, rp_tuple.mpr ⟨T, _, rfl, upd_same, .cons (rp_mono (ex.trans o2.ex) d x h2) (.cons (rp_mono (ex.trans o2.ex) d' y h2') .nil)⟩, fun b o hb => by rw [upd_ne (ne_of_none hb hT)]; exact hb⟩
def iEn (fs : Af) : If := fun ρ S => match fs ρ S with
  | some ([.d (.list ds)], S1) => some (enumD 0 ds, S1)
  | some ([.d (.tuple ds)], S1) => some (enumD 0 ds, S1)
  | _ => none
def iZp (fs : Af) : If := fun ρ S => match fs ρ S with
  | some ([.d (.list ds), .d (.list es)], S1) => some (zipD ds es, S1)
  | some ([.d (.tuple ds), .d (.tuple es)], S1) => some (zipD ds es, S1)
  | _ => none
theorem ei_enum {tpos p : Pos} {elts : List Expr} {kk : Nat} (hm : X.mg "enumerate" = none) (ha : EA X [a] fs) (hg : Gl X "enumerate" := by rfl) (hs : starEach [a] X.env = [(false, eval a X.env)] := by rfl) : EI X (.Tuple elts kk tpos) (.Call (.Name "enumerate" p) [a] [] pos) (iEn fs) := ei_of (pi_enumA hg hm ha hs) fun F m H S ρ σ ds S' ok ro e R k => by
  unfold iEn at e
  split at e
  · rename_i xs S1 q
    cases e
    refine sndA ok ro q _ fun vs F1 m1 H1 st1 ok1 r1 => ?_
    cases r1 with
    | cons r t =>
      cases t
      obtain ⟨p, ws, rfl, h1, h2⟩ := rv_list.mp r
      exact ⟨p, ws, rfl, .inl ⟨.of (ok1.ex _ _ h1), k _ _ _ _ st1 ok1 (itok_enum h1 h2)⟩⟩
  · rename_i xs S1 q
    cases e
    refine sndA ok ro q _ fun vs F1 m1 H1 st1 ok1 r1 => ?_
    cases r1 with
    | cons r t =>
      cases t
      obtain ⟨p, ws, rfl, h1, h2⟩ := rv_tuple.mp r
      exact ⟨p, ws, rfl, .inr ⟨same_t ok1.ex h1, k _ _ _ _ st1 ok1 (itok_enumT (.of h1) h2)⟩⟩
  · cases e
theorem ei_zip {tpos p : Pos} {elts : List Expr} {kk : Nat} (hm : X.mg "zip" = none) (ha : EA X [a, b] fs) (hg : Gl X "zip" := by rfl) (hs : starEach [a, b] X.env = (false, eval a X.env) :: starEach [b] X.env := by rfl) (hpl : (backTo pos (starEach [b] X.env)).any (·.1) = false := by rfl) : EI X (.Tuple elts kk tpos) (.Call (.Name "zip" p) [a, b] [] pos) (iZp fs) := ei_of (RZ.pi_zipA hg hm ha hs hpl) fun F m H S ρ σ ds S' ok ro e R k => by
  unfold iZp at e
  split at e
  · rename_i xs ys S1 q
    cases e
    refine sndA ok ro q _ fun vs F1 m1 H1 st1 ok1 r1 => ?_
    cases r1 with
    | cons r t =>
      cases t with
      | cons r2 t =>
        cases t
        obtain ⟨p, ws, rfl, h1, h2⟩ := rv_list.mp r
        obtain ⟨p', ws', rfl, h1', h2'⟩ := rv_list.mp r2
        exact ⟨p, p', ws, ws', rfl, .inl ⟨.of (ok1.ex _ _ h1), .of (ok1.ex _ _ h1'), k _ _ _ _ st1 ok1 (itok_zip h1 h2 h1' h2')⟩⟩
  · rename_i xs ys S1 q
    cases e
    refine sndA ok ro q _ fun vs F1 m1 H1 st1 ok1 r1 => ?_
    cases r1 with
    | cons r t =>
      cases t with
      | cons r2 t =>
        cases t
        obtain ⟨p, ws, rfl, h1, h2⟩ := rv_tuple.mp r
        obtain ⟨p', ws', rfl, h1', h2'⟩ := rv_tuple.mp r2
        exact ⟨p, p', ws, ws', rfl, .inr ⟨same_t ok1.ex h1, same_t ok1.ex h1', k _ _ _ _ st1 ok1 (itok_zipT (.of h1) h2 (.of h1') h2')⟩⟩
  · cases e

/-! ### for -/
def forL (fg : Gf) (fb : Sf) : List PyData → Rho → Sto → Option (Fl × Rho × Sto)
  | [], ρ, S => some (.nx, ρ, S)
  | d :: r, ρ, S => match fg (.d d) ρ S with
    | some (ρ1, S1) => match fb ρ1 S1 with
      | some (.nx, ρ2, S2) => forL fg fb r ρ2 S2
      | some (.ct, ρ2, S2) => forL fg fb r ρ2 S2
      | some (.bk, ρ2, S2) => some (.nx, ρ2, S2)
      | some (.rt v, ρ2, S2) => some (.rt v, ρ2, S2)
      | none => none
    | none => none
def sFor (fi : If) (fg : Gf) (fb : Sf) : Sf := fun ρ S => match fi ρ S with
  | some (ds, S1) => forL fg fb ds ρ S1
  | none => none
theorem drop_get {α : Type} {xs : List α} {i : Nat} {x : α} (h : xs[i]? = some x) : xs.drop i = x :: xs.drop (i + 1) := by
  obtain ⟨h1, h2⟩ := List.getElem?_eq_some_iff.mp h
  rw [List.drop_eq_getElem_cons h1, h2]
theorem snd_for {fi : If} {fg : Gf} {fb : Sf} : SndS K (tFor (tI K fi) (tG K fg) (tS K fb)) (sFor fi fg fb) := fun F m H S ρ σ fl ρ' S' ok ro e D k => by
  unfold sFor at e
  split at e
  · rename_i ds S1 q
    refine sndI ok ro q _ fun J F1 m1 H1 st1 ok1 it => ?_
    refine ⟨fun i n σ2 H2 => n = ds.length - i ∧ i ≤ ds.length ∧ ∃ F2 m2 S2 ρ2, Stp F1 m1 H1 F2 m2 H2 ∧ SOk K F2 m2 H2 S2 ∧ ROk K F2 m2 ρ2 σ2 ∧ forL fg fb (ds.drop i) ρ2 S2 = some (fl, ρ', S'), ⟨ds.length, rfl, Nat.zero_le _, F1, m1, S1, ρ, Stp.refl, ok1, ro_mono st1 ro, e⟩, ?_⟩
    rintro i n σ2 H2 ⟨rfl, hi, F2, m2, S2, ρ2, st2, ok2, ro2, e2⟩
    obtain ⟨g1, g2, g3⟩ := it i F2 m2 H2 S2 st2.ex ok2
    by_cases hlt : i < ds.length
    · refine .inr ⟨g1 hlt, fun σ3 H3 => ∃ F3 m3 S3 ρ3, Stp F1 m1 H1 F3 m3 H3 ∧ SOk K F3 m3 H3 S3 ∧ ROk K F3 m3 ρ3 σ3 ∧ forL fg fb (ds.drop (i + 1)) ρ3 S3 = some (fl, ρ', S'), fun σ3 H3 ⟨F3, m3, S3, ρ3, h⟩ => ⟨ds.length - (i + 1), by omega, rfl, hlt, F3, m3, S3, ρ3, h⟩, fun x H3 hy => ?_⟩
      obtain ⟨d, F3, hd, st3, ok3, r3, _⟩ := g3 x H3 hlt hy
      rw [drop_get hd] at e2
      rw [forL] at e2
      split at e2
      · rename_i ρ4 S4 q4
        refine sndG ok3 (ro_mono st3 ro2) (a := .d d) r3 q4 _ fun σ4 F4 m4 H4 st4 ok4 ro4 => ?_
        have s4 := (st2.trans st3).trans st4
        split at e2
        · rename_i ρ5 S5 q5
          exact sndS ok4 ro4 q5 _ fun σ5 F5 m5 H5 st5 ok5 ro5 => ⟨F5, m5, S5, ρ5, s4.trans st5, ok5, ro5, e2⟩
        · rename_i ρ5 S5 q5
          exact sndS ok4 ro4 q5 _ fun σ5 F5 m5 H5 st5 ok5 ro5 => ⟨F5, m5, S5, ρ5, s4.trans st5, ok5, ro5, e2⟩
        · rename_i ρ5 S5 q5
          cases e2
          exact sndS ok4 ro4 q5 _ fun σ5 F5 m5 H5 st5 ok5 ro5 => k σ5 F5 m5 H5 ((st1.trans s4).trans st5) ok5 ro5
        · rename_i v ρ5 S5 q5
          cases e2
          exact sndS ok4 ro4 q5 _ fun w F5 m5 H5 st5 ok5 r5 => k w F5 m5 H5 ((st1.trans s4).trans st5) ok5 r5
        · cases e2
      · cases e2
    · have ei : i = ds.length := by omega
      subst ei
      rw [List.drop_length] at e2
      cases e2
      exact .inl ⟨g2 (Nat.le_refl _), k σ2 F2 m2 H2 (st1.trans st2) ok2 ro2⟩
  · cases e
theorem ss_for {tg iter : Expr} {body : List Stmt} {fi : If} {fg : Gf} {fb : Sf} (hi : EI X tg iter fi) (hg : EG X tg fg) (hb : SSs X body fb) (hp : PassesOwn (model X.prog X.w) X.A X.env X.xe := by exact PassesOwn.never) (hc : X.calm = true := by rfl)
    (hs : ∀ x, foldedSetIterable iter X.env x = pure x := by intro _; rfl) : SS X (.For tg iter body [] pos) (sFor fi fg fb) := ss_of (ps_for hp hc hi hg hb hs) snd_for

/-! ### while -/
def whileN (f : Tf) (fb : Sf) : Nat → Rho → Sto → Option (Fl × Rho × Sto)
  | 0, _, _ => none
  | n + 1, ρ, S => match f ρ S with
    | some (true, S1) => match fb ρ S1 with
      | some (.nx, ρ2, S2) => whileN f fb n ρ2 S2
      | some (.ct, ρ2, S2) => whileN f fb n ρ2 S2
      | some (.bk, ρ2, S2) => some (.nx, ρ2, S2)
      | some (.rt v, ρ2, S2) => some (.rt v, ρ2, S2)
      | none => none
    | some (false, S1) => some (.nx, ρ, S1)
    | none => none
theorem snd_while {f : Tf} {fb : Sf} (fuel : Nat) : SndS K (tWhile (tT K f) (tS K fb)) (whileN f fb fuel) := fun F m H S ρ σ fl ρ' S' ok ro e D k => by
  refine ⟨fun n σ2 H2 => ∃ F2 m2 S2 ρ2, Stp F m H F2 m2 H2 ∧ SOk K F2 m2 H2 S2 ∧ ROk K F2 m2 ρ2 σ2 ∧ whileN f fb n ρ2 S2 = some (fl, ρ', S'), ⟨fuel, F, m, S, ρ, Stp.refl, ok, ro, e⟩, ?_⟩
  rintro n σ2 H2 ⟨F2, m2, S2, ρ2, st2, ok2, ro2, e2⟩
  cases n with
  | zero => cases e2
  | succ n =>
    rw [whileN] at e2
    split at e2
    · rename_i S3 q3
      refine sndT ok2 ro2 q3 _ fun F3 m3 H3 st3 ok3 => ?_
      rw [if_pos rfl]
      have s3 := st2.trans st3
      refine ⟨fun σ4 H4 => ∃ F4 m4 S4 ρ4, Stp F m H F4 m4 H4 ∧ SOk K F4 m4 H4 S4 ∧ ROk K F4 m4 ρ4 σ4 ∧ whileN f fb n ρ4 S4 = some (fl, ρ', S'), fun σ4 H4 h => ⟨n, Nat.lt_succ_self n, h⟩, ?_⟩
      split at e2
      · rename_i ρ5 S5 q5
        exact sndS ok3 (ro_mono st3 ro2) q5 _ fun σ5 F5 m5 H5 st5 ok5 ro5 => ⟨F5, m5, S5, ρ5, s3.trans st5, ok5, ro5, e2⟩
      · rename_i ρ5 S5 q5
        exact sndS ok3 (ro_mono st3 ro2) q5 _ fun σ5 F5 m5 H5 st5 ok5 ro5 => ⟨F5, m5, S5, ρ5, s3.trans st5, ok5, ro5, e2⟩
      · rename_i ρ5 S5 q5
        cases e2
        exact sndS ok3 (ro_mono st3 ro2) q5 _ fun σ5 F5 m5 H5 st5 ok5 ro5 => k σ5 F5 m5 H5 (s3.trans st5) ok5 ro5
      · rename_i v ρ5 S5 q5
        cases e2
        exact sndS ok3 (ro_mono st3 ro2) q5 _ fun w F5 m5 H5 st5 ok5 r5 => k w F5 m5 H5 (s3.trans st5) ok5 r5
      · cases e2
    · rename_i S3 q3
      cases e2
      refine sndT ok2 ro2 q3 _ fun F3 m3 H3 st3 ok3 => ?_
      rw [if_neg Bool.false_ne_true]
      exact k σ2 F3 m3 H3 (st2.trans st3) ok3 (ro_mono st3 ro2)
    · cases e2
theorem ss_while (fuel : Nat) {body : List Stmt} {fb : Sf} (hc : ET X c f) (hb : SSs X body fb) (hp : PassesOwn (model X.prog X.w) X.A X.env X.xe := by exact PassesOwn.never) : SS X (.While c body [] pos) (whileN f fb fuel) := ss_of (ps_while hp hc hb) (snd_while fuel)
end
end QL

namespace QL
open PySem PySem.Spec PyProof.Rows L2
section
variable {X : Cx} {K : PySem.W.Frag} {a b c e : Expr} {es : List Expr} {pos : Pos} {f g h : Tf} {fa fb fc : Ef} {fs : Af} {st : Stmt} {rest : List Stmt} {u v : Sf}
/-! ### comprehensions -/
def wipeR (ρ : Rho) : List Nat → Rho
  | [] => ρ
  | v :: vs => (wipeR ρ vs).set v none
theorem ro_wipe {F : Hp} {m : List Addr} {ρ : Rho} {σ : L2.St} (h : ROk K F m ρ σ) : ∀ vs, ROk K F m (wipeR ρ vs) (wipe σ vs)
  | [] => h
  | v :: vs => (ro_wipe h vs).clr2 v
def lcL (fg : Gf) (ft : Tf) (fe : Ef) (ρ : Rho) : List PyData → Sto → Option (List Val × Sto)
  | [], S => some ([], S)
  | d :: r, S => match fg (.d d) ρ S with
    | some (ρ1, S1) => match ft ρ1 S1 with
      | some (true, S2) => match fe ρ1 S2 with
        | some (x, S3) => match lcL fg ft fe ρ r S3 with
          | some (xs, S4) => some (x :: xs, S4)
          | none => none
        | none => none
      | some (false, S2) => lcL fg ft fe ρ r S2
      | none => none
    | none => none
def eLc (md : Md) (fi : If) (fg : Gf) (ft : Tf) (fe : Ef) (vs : List Nat) : Ef := fun ρ S => match fi ρ S with
  | some (ds, S1) => if ds.length < sizeLine then match lcL fg ft fe (wipeR ρ vs) ds S1 with
      | some (xs, S2) => alloc md xs S2
      | none => none
    else none
  | none => none
def ETs (X : Cx) (ifs : List Expr) (f : Tf) : Prop := PTs X ifs (tT X.K f)
def fYes : Tf := fun _ S => some (true, S)
theorem ets_nil : ETs X [] fYes := ⟨fun pins s σ H Q I ⟨_, _, _, _, _, _, ok, ro, e, k⟩ => by
  cases e
  exact pts_nil.run pins s σ H Q I (k _ _ _ Stp.refl ok)⟩
theorem ets_one (hc : ET X c f) : ETs X [c] f := pts_one hc
/-- the target stores in its own slots alone -/
def OwnT (fg : Gf) (vs : List Nat) : Prop := ∀ a ρ S ρ' S', fg a ρ S = some (ρ', S') → S' = S
def OwnG (g : TG) (vs : List Nat) : Prop := ∀ (v : V) (σ : L2.St) (H : Hp) (Q : L2.St → Hp → Prop), g v σ H Q → g v σ H fun σ' H' => Q σ' H' ∧ wipe σ' vs = wipe σ vs
theorem wipe_set_mem {vs : List Nat} : ∀ {i : Nat} {x : Option V} (σ : L2.St), i ∈ vs → wipe (σ.set i x) vs = wipe σ vs := by
  induction vs with
  | nil => intro i x σ h; simp at h
  | cons v vs ih =>
    intro i x σ h
    show (wipe (σ.set i x) vs).set v none = (wipe σ vs).set v none
    by_cases hv : i ∈ vs
    · rw [ih σ hv]
    · have hiv : i = v := by
        rcases List.mem_cons.mp h with q | q
        · exact q
        · exact absurd q hv
      subst hiv
      have e : wipe (σ.set i x) vs = (wipe σ vs).set i x := by
        clear ih h
        induction vs generalizing σ with
        | nil => rfl
        | cons w ws ih2 =>
          show (wipe (σ.set i x) ws).set w none = ((wipe σ ws).set w none).set i x
          rw [ih2 σ (fun q => hv (List.mem_cons_of_mem _ q)), List.set_comm]
          intro q
          exact hv (q ▸ List.mem_cons_self ..)
      rw [e, List.set_set]
theorem wipe_wipe (σ : L2.St) (vs : List Nat) : wipe (wipe σ vs) vs = wipe σ vs := by
  have : ∀ (ws : List Nat), (∀ w ∈ ws, w ∈ vs) → wipe (wipe σ ws) vs = wipe σ vs := by
    intro ws
    induction ws with
    | nil => intro _; rfl
    | cons w ws ih =>
      intro h
      show wipe ((wipe σ ws).set w none) vs = wipe σ vs
      rw [wipe_set_mem _ (h w (List.mem_cons_self ..)), ih (fun q hq => h q (List.mem_cons_of_mem _ hq))]
  exact this vs fun _ h => h
/-- a comprehension's target: one name, or a tuple of names, all its own -/
inductive LcT (K : PySem.W.Frag) (vs : List Nat) : TG → Gf → Prop where
  | name (i : Nat) (h : i ∈ vs) : LcT K vs (gName i) (gN i)
  | tup {n : Nat} {t : TGs} {r : Gs} (hr : ∀ ⦃F m H S ρ σ as ws ρ' S'⦄, SOk K F m H S → ROk K F m ρ σ → Paired (RV K F m) as ws → r as ρ S = some (ρ', S') → ∀ Q : L2.St → Hp → Prop, (S' = S → ∀ σ', ROk K F m ρ' σ' → wipe σ' vs = wipe σ vs → Q σ' H) → t ws σ H Q) : LcT K vs (gTup K n t) (gTu n r)
theorem LcT.snd {vs : List Nat} {t : TG} {fg : Gf} (h : LcT K vs t fg) : ∀ ⦃F m H S ρ σ a v ρ' S'⦄, SOk K F m H S → ROk K F m ρ σ → RV K F m a v → fg a ρ S = some (ρ', S') → ∀ Q : L2.St → Hp → Prop, (S' = S → ∀ σ', ROk K F m ρ' σ' → wipe σ' vs = wipe σ vs → Q σ' H) → t v σ H Q := by
  intro F m H S ρ σ a v ρ' S' ok ro ra e Q k
  cases h with
  | name i hi =>
    cases e
    exact k rfl _ (ro.set ra i) (wipe_set_mem σ hi)
  | @tup n t r hr =>
    unfold gTu at e
    split at e
    · split at e
      · rename_i hl
        obtain ⟨p, ws, rfl, h1, h2⟩ := rv_tuple.mp ra
        exact ⟨p, ws, rfl, same_t ok.ex h1, by rw [← pr_len h2]; exact hl, hr ok ro (rp_rvs h2) e Q k⟩
      · cases e
    · split at e
      · rename_i hl
        obtain ⟨p, ws, rfl, h1, h2⟩ := rv_t.mp ra
        exact ⟨p, ws, rfl, same_t ok.ex h1, by rw [← pr_len h2]; exact hl, hr ok ro h2 e Q k⟩
      · cases e
    · cases e
theorem snd_lc {md : Md} {fi : If} {tg : TG} {fg : Gf} {ft : Tf} {fe : Ef} {vs : List Nat} (hg : LcT K vs tg fg) : SndE K (tLc (tI K fi) tg (tT K ft) (tE K fe) vs) (eLc md fi fg ft fe vs) := fun F m H S ρ σ res S' ok ro e Q k => by
  unfold eLc at e
  split at e
  · rename_i ds S1 q
    split at e
    · rename_i hz
      split at e
      · rename_i xs S2 q2
        refine sndI ok ro q _ fun J F1 m1 H1 st1 ok1 it => ?_
        intro D hD
        obtain ⟨hFD, hmD⟩ := ok1.none hD
        have ok1' : SOk K F1 m1 (upd H1 D (.lst [])) S1 := al_O ok1 hFD hmD
        have st0 : Stp F1 m1 H1 F1 m1 (upd H1 D (.lst [])) := ⟨Same.refl _, ⟨[], by simp⟩, fun _ h => .inl h, fun _ h h' => absurd h h', fun b o hb _ => by rw [upd_ne (ne_of_none hb hD)]; exact hb⟩
        -- what stays true from turn to turn
        refine ⟨fun i n H2 => n = ds.length - i ∧ i ≤ ds.length ∧ ∃ F2 m2 S3 acc ws ys, Stp F1 m1 H1 F2 m2 H2 ∧ SOk K F2 m2 H2 S3 ∧ F2 D = none ∧ D ∉ m2 ∧ H2 D = some (.lst ws) ∧ Paired (RV K F2 m2) acc ws ∧ acc.length ≤ i ∧ lcL fg ft fe (wipeR ρ vs) (ds.drop i) S3 = some (ys, S2) ∧ xs = acc ++ ys,
          ⟨ds.length, rfl, Nat.zero_le _, F1, m1, S1, [], [], xs, st0, ok1', hFD, hmD, upd_same, .nil, Nat.le_refl _, q2, rfl⟩, ?_⟩
        rintro i n H2 ⟨rfl, hi, F2, m2, S3, acc, ws, ys, st2, ok2, hF2, hm2, hH2, hacc, hlen, e2, exs⟩
        obtain ⟨g1, g2, g3⟩ := it i F2 m2 H2 S3 st2.ex ok2
        have st12 := st2
        by_cases hlt : i < ds.length
        · refine .inr ⟨g1 hlt, fun H5 => ∃ F5 m5 S5 acc' ws' ys', Stp F1 m1 H1 F5 m5 H5 ∧ SOk K F5 m5 H5 S5 ∧ F5 D = none ∧ D ∉ m5 ∧ H5 D = some (.lst ws') ∧ Paired (RV K F5 m5) acc' ws' ∧ acc'.length ≤ i + 1 ∧ lcL fg ft fe (wipeR ρ vs) (ds.drop (i + 1)) S5 = some (ys', S2) ∧ xs = acc' ++ ys',
            fun H5 h => ⟨ds.length - (i + 1), by omega, rfl, hlt, h⟩, fun x H3 hy => ?_⟩
          obtain ⟨d, F3, hd, st3, ok3, r3, hkeep⟩ := g3 x H3 hlt hy
          rw [drop_get hd, lcL] at e2
          have hH3 := hkeep D _ hH2
          -- what a step says of D
          have onD : ∀ {Fa ma Ha Fb mb Hb}, Stp Fa ma Ha Fb mb Hb → Fa D = none → D ∉ ma → (∃ vs, Ha D = some (.lst vs)) → Fb D = none ∧ D ∉ mb := fun {Fa ma Ha Fb mb Hb} s h1 h2 h3 => by
            obtain ⟨vsD, h3⟩ := h3
            constructor
            · cases q9 : Fb D with
              | none => rfl
              | some o =>
                rcases s.newF D h1 (by rw [q9]; simp) with r | r | ⟨_, r⟩
                · exact absurd r h2
                · rw [h3] at r; cases r
                · rw [h3] at r; cases r
            · intro hmem
              rcases s.new D hmem with r | r
              · exact h2 r
              · rw [h3] at r; cases r
          obtain ⟨hF3, hm3⟩ := onD st3 hF2 hm2 ⟨_, hH2⟩
          split at e2
          · rename_i ρ4 S4 q4
            have ro3 : ROk K F3 m2 (wipeR ρ vs) (wipe σ vs) := ro_wipe (ro_mono (st1.trans (st12.trans st3)) ro) vs
            refine hg.snd ok3 ro3 (a := .d d) r3 q4 _ fun eS σ4 ro4 ew => ?_
            subst eS
            refine ⟨by rw [ew, wipe_wipe], ?_⟩
            split at e2
            · rename_i S5 q5
              refine sndT ok3 ro4 q5 _ fun F5 m5 H5 st5 ok5 => ?_
              rw [if_pos rfl]
              obtain ⟨hF5, hm5⟩ := onD st5 hF3 hm3 ⟨_, hH3⟩
              have hH5 := st5.fr D _ hH3 hm3
              split at e2
              · rename_i y S6 q6
                refine sndE ok5 (ro_mono st5 ro4) q6 _ fun w F6 m6 H6 st6 ok6 r6 => ?_
                obtain ⟨hF6, hm6⟩ := onD st6 hF5 hm5 ⟨_, hH5⟩
                have hH6 := st6.fr D _ hH5 hm5
                have sall := ((st2.trans st3).trans st5).trans st6
                refine ⟨ws, hH6, by rw [← pr_len hacc]; omega, ?_⟩
                split at e2
                · rename_i zs S7 q7
                  cases e2
                  refine ⟨F6, m6, S6, acc ++ [y], ws ++ [w], zs, ⟨sall.ex, sall.pre, sall.new, sall.newF, fun b o hb hm => ?_⟩, al_O ok6 hF6 hm6, hF6, hm6, upd_same, pr_append (rvs_mono ((st3.trans st5).trans st6) hacc) (.cons r6 .nil), by simp; omega, q7, by rw [exs, List.append_assoc]; rfl⟩
                  rw [upd_ne (ne_of_none hb hD)]
                  exact sall.fr b o hb hm
                · cases e2
              · cases e2
            · rename_i S5 q5
              refine sndT ok3 ro4 q5 _ fun F5 m5 H5 st5 ok5 => ?_
              rw [if_neg Bool.false_ne_true]
              obtain ⟨hF5, hm5⟩ := onD st5 hF3 hm3 ⟨_, hH3⟩
              have hH5 := st5.fr D _ hH3 hm3
              exact ⟨F5, m5, S5, acc, ws, ys, (st2.trans st3).trans st5, ok5, hF5, hm5, hH5, rvs_mono (st3.trans st5) hacc, by omega, e2, exs⟩
            · cases e2
          · cases e2
        · have ei : i = ds.length := by omega
          subst ei
          rw [List.drop_length, lcL] at e2
          cases e2
          rw [List.append_nil] at exs
          subst exs
          refine .inl ⟨g2 (Nat.le_refl _), ?_⟩
          cases md with
          | N =>
            cases e
            obtain ⟨o1, o2⟩ := al_Q ok2 hH2 hF2 hm2 hacc
            refine k _ F2 (m2 ++ [D]) H2 ⟨st1.ex.trans st12.ex, ?_, fun b hb => ?_, fun b h1 h2 => (st1.trans st12).newF b h1 h2, (st1.trans st12).fr⟩ o1 o2
            · obtain ⟨t1, e1⟩ := (st1.trans st12).pre
              exact ⟨t1 ++ [D], by rw [e1, List.append_assoc]⟩
            · rcases List.mem_append.mp hb with r | r
              · exact (st1.trans st12).new b r
              · rw [List.mem_singleton.mp r]
                right
                cases q9 : H D with
                | none => rfl
                | some o =>
                  by_cases hmm : D ∈ m
                  · obtain ⟨t1, e1⟩ := st1.pre
                    exact absurd (by rw [e1]; exact List.mem_append_left _ hmm) hmD
                  · rw [st1.fr D o q9 hmm] at hD; cases hD
          | D =>
            have e' : (unD xs).map (fun ds => (Val.d (.list ds), _)) = some (res, S') := e
            cases q9 : unD xs with
            | none => rw [q9] at e'; cases e'
            | some zs =>
              rw [q9] at e'; cases e'
              have hp := unD_ok q9 hacc
              have o1 := al_P ok2 hH2 hF2 hm2
              have ex2 : Same F2 (upd F2 D (.lst ws)) := fun b o hb => by rw [upd_ne (ne_of_none hb hF2)]; exact hb
              have st13 := st1.trans st12
              refine k _ (upd F2 D (.lst ws)) m2 H2 ⟨st13.ex.trans ex2, st13.pre, st13.new, fun b h1 h2 => ?_, st13.fr⟩ o1 (rv_list.mpr ⟨D, ws, rfl, upd_same, pr_mono (fun x v => rp_mono ex2 x v) hp⟩)
              by_cases hbD : b = D
              · subst hbD
                right
                left
                cases q8 : H b with
                | none => rfl
                | some o =>
                  by_cases hmm : b ∈ m
                  · obtain ⟨t1, e1⟩ := st1.pre
                    exact absurd (by rw [e1]; exact List.mem_append_left _ hmm) hmD
                  · rw [st1.fr b o q8 hmm] at hD; cases hD
              · rw [upd_ne hbD] at h2
                exact st13.newF b h1 h2
      · cases e
    · cases e
  · cases e
end
end QL

namespace QL
open PySem PySem.Spec PyProof.Rows L2
section
variable {X : Cx} {K : PySem.W.Frag} {a b c e elt tg iter : Expr} {es ifs : List Expr} {pos : Pos} {f g h : Tf} {fa fb fc fe : Ef} {fs : Af} {st : Stmt} {rest : List Stmt} {u v : Sf}
/-! ### comprehensions, said -/
def tgN : List Nat → TGs
  | [] => gNil
  | i :: r => gCons (gName i) (tgN r)
def gsN : List Nat → Gs
  | [] => gsNil
  | i :: r => gsCons (gN i) (gsN r)
theorem gsN_ok {vs : List Nat} : ∀ (is : List Nat), (∀ i ∈ is, i ∈ vs) → ∀ ⦃F m H S ρ σ as ws ρ' S'⦄, SOk K F m H S → ROk K F m ρ σ → Paired (RV K F m) as ws → gsN is as ρ S = some (ρ', S') → ∀ Q : L2.St → Hp → Prop, (S' = S → ∀ σ', ROk K F m ρ' σ' → wipe σ' vs = wipe σ vs → Q σ' H) → tgN is ws σ H Q
  | [], _, F, m, H, S, ρ, σ, as, ws, ρ', S', ok, ro, ra, e, Q, k => by
    cases ra with
    | nil => cases e; exact ⟨rfl, k rfl σ ro rfl⟩
    | cons _ _ => cases e
  | i :: is, hi, F, m, H, S, ρ, σ, as, ws, ρ', S', ok, ro, ra, e, Q, k => by
    cases ra with
    | nil => cases e
    | cons r t =>
      refine ⟨_, _, rfl, ?_⟩
      refine gsN_ok is (fun j hj => hi j (List.mem_cons_of_mem _ hj)) ok (ro.set r i) t e Q fun eS σ' ro' ew => k eS σ' ro' ?_
      rw [ew, wipe_set_mem σ (hi i (List.mem_cons_self ..))]
theorem lct_tup {vs : List Nat} (n : Nat) (is : List Nat) (hi : ∀ i ∈ is, i ∈ vs := by decide) : LcT K vs (gTup K n (tgN is)) (gTu n (gsN is)) := .tup (gsN_ok is hi)
/-- ((a, b), c) -/
theorem lct_tup21 {vs : List Nat} (n n2 : Nat) (is js : List Nat) (hi : ∀ i ∈ is, i ∈ vs := by decide) (hj : ∀ i ∈ js, i ∈ vs := by decide) : LcT K vs (gTup K n (gCons (gTup K n2 (tgN is)) (tgN js))) (gTu n (gsCons (gTu n2 (gsN is)) (gsN js))) :=
  .tup fun F m H S ρ σ as ws ρ' S' ok ro ra e Q k => by
    cases ra with
    | nil => cases e
    | cons r t =>
      simp only [gsCons] at e
      split at e
      · rename_i ρ1 S1 q
        refine ⟨_, _, rfl, ?_⟩
        refine (lct_tup (K := K) n2 is hi).snd ok ro r q _ fun eS σ1 ro1 ew => ?_
        subst eS
        exact gsN_ok js hj ok ro1 t e Q fun eS σ' ro' ew' => k eS σ' ro' (ew'.trans ew)
      · cases e
theorem ee_lc (md : Md) (own : List (Str × Nat)) {scope : Scope} {fi : If} {tG' : TG} {fg : Gf} {ft : Tf} (hN : X.N.Nodup) (hi : EI X tg iter fi) (ok : BlkOk X.N X.env.scope scope own)
    (hl : LcT X.K (own.map (·.2)) tG' fg) (hg : ∀ (s : Shared) (H : Hp) (C : Addr) (cl : List (Str × Addr)) (fp : List Addr), PG (X.blk s H scope (compEnvC scope cl C X.env) fp) tg tG')
    (ht : ∀ (s : Shared) (H : Hp) (C : Addr) (cl : List (Str × Addr)) (fp : List Addr), ETs (X.blk s H scope (compEnvC scope cl C X.env) fp) ifs ft)
    (he : ∀ (s : Shared) (H : Hp) (C : Addr) (cl : List (Str × Addr)) (fp : List Addr), EE (X.blk s H scope (compEnvC scope cl C X.env) fp) elt fe) (hc : X.calm = true := by rfl) (hs : ∀ x, foldedSetIterable iter X.env x = pure x := by intro _; rfl) :
    EE X (.ListComp elt [⟨tg, iter, ifs, 0⟩] scope pos) (eLc md fi fg ft fe (own.map (·.2))) := ee_of (pe_lc (tt := tT X.K ft) (te := tE X.K fe) hc hN hi ok hg (fun s H C cl fp => ht s H C cl fp) (fun s H C cl fp => he s H C cl fp) hs) (snd_lc hl)
theorem ss_setLc (md : Md) (i : Nat) (own : List (Str × Nat)) {y : Str} {py spos : Pos} {scope : Scope} {fi : If} {tG' : TG} {fg : Gf} {ft : Tf} (hN : X.N.Nodup) (hi : EI X tg iter fi) (ok : BlkOk X.N X.env.scope scope own)
    (hl : LcT X.K (own.map (·.2)) tG' fg) (hg : ∀ (s : Shared) (H : Hp) (C : Addr) (cl : List (Str × Addr)) (fp : List Addr), PG (X.blk s H scope (compEnvC scope cl C X.env) fp) tg tG')
    (ht : ∀ (s : Shared) (H : Hp) (C : Addr) (cl : List (Str × Addr)) (fp : List Addr), ETs (X.blk s H scope (compEnvC scope cl C X.env) fp) ifs ft)
    (he : ∀ (s : Shared) (H : Hp) (C : Addr) (cl : List (Str × Addr)) (fp : List Addr), EE (X.blk s H scope (compEnvC scope cl C X.env) fp) elt fe) (hc : X.calm = true := by rfl) (hy : X.N[i]? = some y := by rfl) (hyl : X.env.scope.names.lookup y = some .local := by rfl)
    (hsw : swapsWith (.ListComp elt [⟨tg, iter, ifs, 0⟩] scope pos) (some (.Name y py)) spos.line X.env = pure true := by exact sw_true rfl rfl rfl (by decide +kernel)) (hs : ∀ x, foldedSetIterable iter X.env x = pure x := by intro _; rfl) :
    SS X (.Assign [.Name y py] (.ListComp elt [⟨tg, iter, ifs, 0⟩] scope pos) spos) (sAsg (eLc md fi fg ft fe (own.map (·.2))) (gN i)) := ss_of (ps_setLc (tt := tT X.K ft) (te := tE X.K fe) hc hN hy hyl hsw hi ok hg (fun s H C cl fp => ht s H C cl fp) (fun s H C cl fp => he s H C cl fp) hs) (snd_asg (snd_lc hl) (sndN i))

/-! ### str(..) of lists and tuples -/
def isSeq : PyData → Bool
  | .list _ => true
  | .tuple _ => true
  | _ => false
def gStrD : List Val → Sto → Option (Val × Sto) := fun as S => match as with
  | [a] => match look S a with
    | some d => if isSeq d = true ∧ d.showable = true ∧ d.hasDict = false ∧ d.depth ≤ 60 ∧ d.shown.length ≤ sizeLine then some (.d (.str d.shown), S) else none
    | none => none
  | _ => none
theorem call_strD {k : Nat} (hr : RoomG k X.A) : CallR X (.type "str") (fun xs H Q => ∃ x d, xs = [x] ∧ Rp X.K H d x ∧ isSeq d = true ∧ d.showable = true ∧ d.hasDict = false ∧ d.depth ≤ 60 ∧ d.shown.length ≤ sizeLine ∧ Q (.str d.shown) H) := by
  intro pins s σ H xs us Q I rs h
  obtain ⟨x, d, rfl, hd, h0, h1, h2, h3, h4, q⟩ := h
  obtain ⟨u, rfl, ru⟩ := vals1 rs
  obtain ⟨as, r1⟩ := Dp.reads I d x u (rp_dp d x hd) ru
  have hu : X.A.units + (d.depth + 3) < cLine := by have := hr.room.un; omega
  have href : ∃ p, x = .ref p := by
    cases d with
    | list ds => obtain ⟨p, _, e, _⟩ := rp_list.mp hd; exact ⟨p, e⟩
    | tuple ds => obtain ⟨p, _, e, _⟩ := rp_tuple.mp hd; exact ⟨p, e⟩
    | _ => cases h0
  obtain ⟨p, rfl⟩ := href
  cases ru
  exact PySem.str_of_reads r1 h1 (PyData.noDict_hsm h2) hr.gd hu (fun _ _ z => z) (fun h' w tk hk => ⟨.str d.shown, H, I.kept hk, ⟨w, rfl⟩, q⟩) h4
theorem cg_strD {k : Nat} (hr : RoomG k X.A) : CallG X (.type "str") gStrD := ⟨_, call_strD hr, fun F m H S as vs res S' ok rs e Q k => by
  unfold gStrD at e
  split at e
  · rename_i a
    split at e
    · rename_i d hd
      split at e
      · rename_i hz
        cases e
        cases rs with
        | cons r1 t =>
          cases t
          exact ⟨_, d, rfl, look_ok ok hd r1, hz.1, hz.2.1, hz.2.2.1, hz.2.2.2.1, hz.2.2.2.2, k.here ok (rv_str.mpr rfl)⟩
      · cases e
    · cases e
  · cases e⟩
def gStrA := altC gStr gStrD
theorem cg_strA {k : Nat} (hr : RoomG k X.A) : CallG X (.type "str") gStrA := cg_str.or (cg_strD hr)
end

/-! ### a def -/
mutual
def ClV (n : Nat) : Val → Prop
  | .c k => k < n
  | .t xs => ClA n xs
  | .d _ => True
  | .s _ => True
def ClA (n : Nat) : List Val → Prop
  | [] => True
  | x :: xs => ClV n x ∧ ClA n xs
end
def ClC (n : Nat) : Cell → Prop
  | .lst xs => ∀ x ∈ xs, ClV n x
  | .dk xs => ∀ x ∈ xs, ClV n x.2
  | .dt xs => ∀ x ∈ xs, ClV n x.2
  | .frz _ => True
  | .fk xs => ∀ x ∈ xs, ClV n x.2
  | .ft xs => ∀ x ∈ xs, ClV n x.2
  | .ins _ xs => ∀ x ∈ xs, ClV n x.2
/-- what a def leaves: old cells, or cells that know no other ones -/
structure Keep (S S' : Sto) (r : Val) : Prop where
  len : S.length ≤ S'.length
  old : ∀ (k : Nat) (c : Cell), S'[k]? = some c → S[k]? = some c ∨ ClC S'.length c
  res : ClV S'.length r
theorem Keep.same (S : Sto) (x : PyData) : Keep S S (.d x) := ⟨Nat.le_refl _, fun _ _ h => .inl h, trivial⟩
theorem Keep.set (S : Sto) (k : Nat) (ds : List PyData) (x : PyData) : Keep S (S.set k (.lst (ds.map .d))) (.d x) := by
  refine ⟨by simp, fun j c h => ?_, trivial⟩
  by_cases e : k = j
  · subst e
    right
    rw [List.getElem?_set] at h
    simp only [if_true] at h
    split at h
    · cases h
      intro x hx
      obtain ⟨d, _, rfl⟩ := List.mem_map.mp hx
      trivial
    · cases h
  · rw [List.getElem?_set_ne e] at h
    exact .inl h
theorem pr_mem {α β : Type} {G G' : α → β → Prop} : ∀ {xs : List α} {ys : List β}, (∀ a b, a ∈ xs → G a b → G' a b) → Paired G xs ys → Paired G' xs ys
  | _, _, _, .nil => .nil
  | _, _, h, .cons r t => .cons (h _ _ (List.mem_cons_self ..) r) (pr_mem (fun a b ha => h a b (List.mem_cons_of_mem _ ha)) t)
theorem pr_in {α β : Type} {G : α → β → Prop} : ∀ {xs : List α} {ys : List β}, Paired G xs ys → ∀ a ∈ xs, ∃ b, G a b
  | _, _, .nil, _, h => by simp at h
  | _, _, .cons r t, a, h => by
    rcases List.mem_cons.mp h with q | q
    · subst q; exact ⟨_, r⟩
    · exact pr_in t a q
section
variable {K : PySem.W.Frag}
mutual
theorem rv_take' {F : Hp} {m : List Addr} {n : Nat} : ∀ (a : Val) (v : V), RV K F m a v → ClV n a → RV K F (m.take n) a v
  | .d x, v, h, _ => h
  | .s ns, v, h, _ => h
  | .c k, v, h, hc => by
    rw [rv_c] at h ⊢
    obtain ⟨p, h1, h2⟩ := h
    simp only [ClV] at hc
    exact ⟨p, by rw [List.getElem?_take_of_lt hc]; exact h1, h2⟩
  | .t xs, v, h, hc => by
    simp only [RV] at h ⊢
    simp only [ClV] at hc
    obtain ⟨a, vs, h1, h2, h3⟩ := h
    exact ⟨a, vs, h1, h2, rva_take' xs vs h3 hc⟩
theorem rva_take' {F : Hp} {m : List Addr} {n : Nat} : ∀ (xs : List Val) (vs : List V), RVA K F m xs vs → ClA n xs → RVA K F (m.take n) xs vs
  | [], vs, h, _ => by simpa [RVA] using h
  | x :: xs, vs, h, hc => by
    simp only [RVA] at h ⊢
    simp only [ClA] at hc
    obtain ⟨v, r, h1, h2, h3⟩ := h
    exact ⟨v, r, h1, rv_take' x v h2 hc.1, rva_take' xs r h3 hc.2⟩
end
mutual
theorem rv_cl {F : Hp} {m : List Addr} {n : Nat} (hn : m.length ≤ n) : ∀ (a : Val) (v : V), RV K F m a v → ClV n a
  | .d x, v, h => by simp only [ClV]
  | .s ns, v, h => by simp only [ClV]
  | .c k, v, h => by
    rw [rv_c] at h
    obtain ⟨p, h1, _⟩ := h
    simp only [ClV]
    exact Nat.lt_of_lt_of_le (List.getElem?_eq_some_iff.mp h1).1 hn
  | .t xs, v, h => by
    simp only [RV] at h
    obtain ⟨a, vs, h1, h2, h3⟩ := h
    simp only [ClV]
    exact rva_cl hn xs vs h3
theorem rva_cl {F : Hp} {m : List Addr} {n : Nat} (hn : m.length ≤ n) : ∀ (xs : List Val) (vs : List V), RVA K F m xs vs → ClA n xs
  | [], vs, h => by simp only [ClA]
  | x :: xs, vs, h => by
    simp only [RVA] at h
    obtain ⟨v, r, h1, h2, h3⟩ := h
    simp only [ClA]
    exact ⟨rv_cl hn x v h2, rva_cl hn xs r h3⟩
end
theorem rv_take {F : Hp} {m : List Addr} {n : Nat} {a : Val} {v : V} (h : RV K F m a v) (hc : ClV n a) : RV K F (m.take n) a v := rv_take' a v h hc
theorem trunc {F F' H H' : Hp} {m m' : List Addr} {S S' T : Sto} {r : Val} (ok0 : SOk K F m H S) (st : Stp F m H F' m' H') (ok : SOk K F' m' H' (S' ++ T)) (kp : Keep S S' r) :
    ∃ m2, Stp F m H F' m2 H' ∧ SOk K F' m2 H' S' ∧ ∀ v, RV K F' m' r v → RV K F' m2 r v := by
  have hlen : S'.length ≤ m'.length := by rw [ok.len, List.length_append]; omega
  refine ⟨m'.take S'.length, ⟨st.ex, ?_, fun a ha => st.new a (List.mem_of_mem_take ha), st.newF, st.fr⟩, ⟨ok.ex, by rw [List.length_take]; omega, ok.nd.sublist (List.take_sublist _ _), fun a ha => ok.tr a (List.mem_of_mem_take ha), fun k a c h1 h2 => ?_⟩, fun v h => rv_take h kp.res⟩
  · obtain ⟨t, e⟩ := st.pre
    refine ⟨t.take (S'.length - m.length), ?_⟩
    have hm : m.length ≤ S'.length := by rw [ok0.len]; exact kp.len
    rw [e, List.take_append, List.take_of_length_le hm]
  · have hk : k < S'.length := (List.getElem?_eq_some_iff.mp h2).1
    rw [List.getElem?_take_of_lt hk] at h1
    have hc := ok.cell k a c h1 (by rw [List.getElem?_append_left hk]; exact h2)
    have hcl : ClC S'.length c := by
      rcases kp.old k c h2 with q | q
      · have hkl : k < m.length := by rw [ok0.len]; exact (List.getElem?_eq_some_iff.mp q).1
        have hq := ok0.cell k m[k] _ (List.getElem?_eq_getElem hkl) q
        have one : ∀ (x : Val) (w : V), RV K F m x w → ClV S'.length x := fun x w r => rv_cl (by rw [ok0.len]; exact kp.len) x w r
        cases c with
        | frz x => trivial
        | lst xs =>
          intro x hx
          obtain ⟨_, ws, _, hp⟩ := hq
          obtain ⟨w, r⟩ := pr_in hp _ hx
          exact one x w r
        | dk xs =>
          intro x hx
          obtain ⟨_, ws, _, hp⟩ := hq
          obtain ⟨w, r⟩ := pr_in hp _ hx
          exact one _ _ r.2
        | dt xs =>
          intro x hx
          obtain ⟨_, ws, _, hp⟩ := hq
          obtain ⟨w, r⟩ := pr_in hp _ hx
          exact one _ _ r.2
        | fk xs =>
          intro x hx
          obtain ⟨_, ws, _, hp⟩ := hq
          obtain ⟨w, r⟩ := pr_in hp _ hx
          exact one _ _ r.2
        | ft xs =>
          intro x hx
          obtain ⟨_, ws, _, hp⟩ := hq
          obtain ⟨w, r⟩ := pr_in hp _ hx
          exact one _ _ r.2
        | ins cn xs =>
          intro x hx
          obtain ⟨_, _, _, ws, _, _, hp⟩ := hq
          obtain ⟨w, r⟩ := pr_in hp _ hx
          exact one _ _ r.2
      · exact q
    cases c with
    | frz x => exact hc
    | lst xs =>
      obtain ⟨h3, ws, h4, h5⟩ := hc
      exact ⟨h3, ws, h4, pr_mem (fun x w hx r => rv_take r (hcl x hx)) h5⟩
    | dk xs =>
      obtain ⟨h3, ws, h4, h5⟩ := hc
      exact ⟨h3, ws, h4, pr_mem (fun x w hx r => ⟨r.1, rv_take r.2 (hcl x hx)⟩) h5⟩
    | dt xs =>
      obtain ⟨h3, ws, h4, h5⟩ := hc
      exact ⟨h3, ws, h4, pr_mem (fun x w hx r => ⟨r.1, rv_take r.2 (hcl x hx)⟩) h5⟩
    | fk xs =>
      obtain ⟨o, ws, h4, h5⟩ := hc
      exact ⟨o, ws, h4, pr_mem (fun x w hx r => ⟨r.1, rv_take r.2 (hcl x hx)⟩) h5⟩
    | ft xs =>
      obtain ⟨o, ws, h4, h5⟩ := hc
      exact ⟨o, ws, h4, pr_mem (fun x w hx r => ⟨r.1, rv_take r.2 (hcl x hx)⟩) h5⟩
    | ins cn xs =>
      obtain ⟨h3, C, dx, ws, h1, h4, h5⟩ := hc
      exact ⟨h3, C, dx, ws, h1, h4, pr_mem (fun x w hx r => ⟨r.1, rv_take r.2 (hcl x hx)⟩) h5⟩
def initR (n : Nat) (as : List Val) : Rho := as.map some ++ List.replicate (n - as.length) none
theorem ro_init {F : Hp} {m : List Addr} {N : List Str} {as : List Val} {vs : List V} (h : Paired (RV K F m) as vs) : ROk K F m (initR N.length as) (L2.start N vs) := by
  have hl := pr_len h
  refine ⟨by unfold initR L2.start; simp [hl], fun i a e => ?_⟩
  unfold initR at e
  unfold L2.start
  by_cases hi : i < as.length
  · rw [List.getElem?_append_left (by simpa using hi), List.getElem?_map] at e
    cases q : as[i]? with
    | none => rw [q] at e; cases e
    | some y =>
      rw [q] at e; cases e
      obtain ⟨v, h1, h2⟩ := pr_get h q
      refine ⟨v, ?_, h2⟩
      rw [List.getElem?_append_left (by rw [List.length_map, ← hl]; exact hi), List.getElem?_map, h1]
      rfl
  · rw [List.getElem?_append_right (by simpa using Nat.le_of_not_lt hi), List.getElem?_replicate] at e
    split at e <;> cases e
variable {P : Program} {w : World} {mg : Str → Option Value} {base : Heap}
/-- what a body must do for φ -/
def Does (nN n : Nat) (fb : Sf) (φ : List Val → Sto → Option (Val × Sto)) : Prop := ∀ as S r S', as.length = n → φ as S = some (r, S') → ∃ fl ρ' T, fb (initR nN as) S = some (fl, ρ', S' ++ T) ∧ (fl = .rt r ∨ (fl = .nx ∧ r = .d .none)) ∧ (T = [] ∨ Keep S S' r)
theorem fng_ok {k n : Nat} {x qual : Str} {st : Stmt} {f : Addr} {fd : FuncData} {N ps : List Str} {fb : Sf} {φ : List Val → Sto → Option (Val × Sto)} (F : Fun K x qual st f fd) (Sc : FnScope N ps (defScope st)) (hn : ps.length = n)
    (hbody : ∀ (cdv : Value) (A : Around) (outer : List PySem.Env) (s : Shared) (H : Hp), RoomG k (A.deeper (envOfC qual (defScope st) s.heap.objs.size f cdv)) → SSs ((cxOf CX0 P w K mg base N qual (defScope st) f cdv A outer s H E0).nox) (defBody st) fb)
    (hφ : Does N.length n fb φ) : FnG P w K mg base (k + 1) f fd ps n φ := by
  obtain ⟨oc, od, kV, doc, pm, an, cdv, ct, osl, rfl, lk, hcd⟩ := F.ex
  intro A outer s H args us vs Q hr e0 hbd r hsp
  have hl : vs.length = ps.length := by rw [hn]; exact spOf_len vs H Q E0 hsp
  have KX : K.In s.heap := e0.mod.kin.keeps fun b o h => (e0.bs b o h).1
  have lim : s.heap.NoLimit := e0.mod.nolimit.keeps fun b o h => (e0.bs b o h).1
  have hkd : ∀ y ∈ ps.zip us, (defScope st).names.lookup y.1 = some .local ∨ ((defScope st).names.lookup y.1 = some .cell ∧ ((cellsFrom (s.heap.objs.size + 1) (defScope st).names []).lookup y.1).isSome = true) := by
    rintro ⟨y, z⟩ hy
    rcases Sc.par y (List.of_mem_zip hy).1 with q | q
    · exact .inl q
    · exact .inr ⟨q, PySem.W.cellsFrom_some _ _ _ (.inl q)⟩
  refine codeAny_call_function hr.room.depth (KX _ _ lk) rfl Sc.co Sc.gen rfl (PySem.W.codeRec_of KX hcd) (hbd _ _ _ _ ?_)
  refine wpAny_newFunctionEnv_cells Sc.kind hkd fun env he s1 xx => ?_
  subst he
  refine ⟨lim.keeps xx.toInCall.keep, codeAny_func ?_⟩
  have I0 := (inv_start (CX := CX0) (P := P) (E := E0) Sc hr.room.hd e0 hl r xx).wish fun _ _ => False
  have hB := hbody cdv A outer s H ⟨hr.room.deeper _, hr.gd⟩
  obtain ⟨F0, m0, as, S, rr, S', h1, ok, rv, ep, kk⟩ := hsp
  obtain ⟨fl, ρ', T, eb, hfl, kp⟩ := hφ as S rr S' h1 ep
  have hD : tS K fb { nx := fun _ H' => Q .non H', rt := Q } (L2.start N vs) H := by
    refine ⟨F0, m0, S, _, fl, ρ', S' ++ T, ok, ro_init rv, eb, ?_⟩
    rcases kp with hT | kp
    · subst hT
      rw [List.append_nil]
      rcases hfl with q | ⟨q, q2⟩
      · subst q
        exact fun v F' m' H' st' ok' r' => kk v F' m' H' st' ok' r'
      · subst q q2
        exact fun σ' F' m' H' st' ok' ro' => kk .non F' m' H' st' ok' (rv_none.mpr rfl)
    rcases hfl with q | ⟨q, q2⟩
    · subst q
      intro v F' m' H' st' ok' r'
      obtain ⟨m2, s2, o2, t2⟩ := trunc ok st' ok' kp
      exact kk v F' m2 H' s2 o2 (t2 v r')
    · subst q q2
      intro σ' F' m' H' st' ok' ro'
      obtain ⟨m2, s2, o2, t2⟩ := trunc ok st' ok' kp
      exact kk .non F' m2 H' s2 o2 (rv_none.mpr rfl)
  refine wpAny_mono (hB.run [] s1 (L2.start N vs) H _ I0 hD) (fun fl' s' hs => ?_) fun _ _ z => False.elim z
  have fin : ∀ {σ' : L2.St} {H' : Hp} {v : V} {u : Value}, Inv ((cxOf CX0 P w K mg base N qual (defScope st) f cdv A outer s H E0).nox) [] σ' H' s' → RelV v u → Q v H' → CE outer P w H s Q u s' :=
    fun J rv q => ⟨_, _, J.os, J.bare, J.base, J.hok, rv, q⟩
  cases fl' with
  | ret u =>
    obtain ⟨v, σ', H', J, rv, q⟩ := hs
    exact fin J rv q
  | next =>
    obtain ⟨σ', H', J, q⟩ := hs
    exact fin (v := V.non) (u := Value.none) J rfl q
  | brk => obtain ⟨_, _, _, q⟩ := hs; exact q.elim
  | cont => obtain ⟨_, _, _, q⟩ := hs; exact q.elim
theorem def_ok {k n : Nat} {x qual : Str} {st : Stmt} {f : Addr} {fd : FuncData} {N ps : List Str} {fb : Sf} {φ : List Val → Sto → Option (Val × Sto)} (F : Fun K x qual st f fd) (gm : mg x = some (.ref f)) (Sc : FnScope N ps (defScope st)) (hb : Binds K fd ps []) (hn : ps.length = n)
    (hbody : ∀ (cdv : Value) (A : Around) (outer : List PySem.Env) (s : Shared) (H : Hp), RoomG k (A.deeper (envOfC qual (defScope st) s.heap.objs.size f cdv)) → SSs ((cxOf CX0 P w K mg base N qual (defScope st) f cdv A outer s H E0).nox) (defBody st) fb)
    (hφ : Does N.length n fb φ) : DefOk P w K mg base (k + 1) x n φ := ⟨f, fd, ps, hn, fng_ok F Sc hn hbody hφ, gm, F.kp, hb⟩
end
end QL

namespace QL
open PySem PySem.Spec PyProof.Rows L2
/-- the law's call at the heap behind the top -/
theorem call_q {P : Program} {w : World} {K : PySem.W.Frag} {mg mb : Str → Option Value} {k : Nat} {fa sa : Addr} {nm : Str} {φ : List Val → Sto → Option (Val × Sto)} {s1 : Shared} {us : List Value} {ns : List Int}
    (KX : K.In s1.heap) (hG : s1.heap.Ns mainGlobals mg) (hB : s1.heap.Ns builtinsNs mb) (hBB : ∀ x : Str, x ≠ "__name__" → mb x = bootBuiltins x) (hL : s1.heap.NoLimit) (hgen : s1.gens = #[])
    (hs : s1.heap.get? sa = some { cls := .type "list", data := .seq us.toArray }) (hi : IntsAre us ns) (hln : ns.length ≤ sizeLine) (hr : Room k callerA) (hfa : mg nm = some (.ref fa))
    (D : ∀ base : Heap, K.In base → base.Ns mainGlobals mg → DefOk P w K mg base k nm 1 φ) (hφ : ∃ S', φ [.s ns] [] = some (.d (.bool true), S')) :
    codeAny (model P w) callerA (.call (.ref fa) ⟨[.ref sa], []⟩) (fun r s' => r = .ok (.ret (.bool true)) ∧ OldK s1.heap s'.heap ∧ s'.os = s1.os ∧ AllBare s'.gens) s1 := by
  have rv := vals_ints hi
  -- H tracks the script at most
  have main : ∀ H : Hp, (∀ b, H b = none ∨ ∃ o xs, H b = some (.frz o (.lst xs))) → SqL K H sa (ns.map V.int) → HOk P w H s1.heap → (∀ b, H b ≠ none → b = sa ∧ K.lookup sa = none) →
      codeAny (model P w) callerA (.call (.ref fa) ⟨[.ref sa], []⟩) (fun r s' => r = .ok (.ret (.bool true)) ∧ OldK s1.heap s'.heap ∧ s'.os = s1.os ∧ AllBare s'.gens) s1 := by
    intro H hO hS hok hA
    have untr : ∀ {b : Addr}, b ≠ sa ∨ K.lookup sa ≠ none → H b = none := fun {b} hb => by
      cases q : H b with
      | none => rfl
      | some u =>
        obtain ⟨z1, z2⟩ := hA b (by rw [q]; simp)
        rcases hb with z | z
        · exact absurd z1 z
        · exact absurd z2 z
    have hK : K.In (hidT s1.heap H) := fun b o e => by
      refine hidT_get (KX b o e) ?_
      by_cases hb : b = sa
      · subst hb
        exact untr (.inr (by rw [e]; simp))
      · exact untr (.inl hb)
    have ns' : ∀ {b : Addr} {m : Str → Option Value}, s1.heap.Ns b m → (hidT s1.heap H).Ns b m := by
      rintro b m ⟨o, es, ep, e, d, r⟩
      refine ⟨o, es, ep, hidT_get e (untr (.inl fun z => ?_)), d, r⟩
      subst z
      rw [hs] at e
      cases e
      have d' : Data.seq us.toArray _ = Data.dict es ep := d
      cases d'
    have hM : Mod K mg (hidT s1.heap H) := by
      obtain ⟨mc, h1, h2⟩ := hL
      exact ⟨hK, ns' hG, ⟨mb, ns' hB, hBB⟩, ⟨mc, ns' h1, h2⟩⟩
    obtain ⟨f, fd, ps, hn, F, hm, hkp, hb⟩ := D _ hK (ns' hG)
    have ef : f = fa := by
      have := hm.symm.trans hfa
      injection this with z
      injection z
    subst ef
    have e0 : Env0 P w K mg (hidT s1.heap H) callerA [] s1 H := by
      refine ⟨rfl, hM, fun b o e => of_hidT e, Nat.le_of_eq (hidT_size _ _), trivial, fun b z => ?_, hok, .of_eq hgen⟩
      exact absurd (show b ∈ ([] : List Addr) from z) (by simp)
    have hbd := hb s1 [.ref sa] KX (by rw [hn]; rfl)
    rw [List.append_nil] at hbd
    obtain ⟨S', hφ⟩ := hφ
    have hsp : spOf K 1 φ [.ref sa] H (fun v _ => v = .bl true) E0 := by
      refine ⟨H, [], [.s ns], [], _, S', rfl, ⟨Same.refl _, rfl, List.nodup_nil, fun a z => by simp at z, fun k a c z => by simp at z⟩, .cons ⟨sa, rfl, hS⟩ .nil, hφ, fun v F' m' H' _ _ r => rv_bool.mp r⟩
    refine codeAny_mono (F callerA [] s1 H ⟨[.ref sa], []⟩ [.ref sa] [.ref sa] _ ⟨hr, rfl⟩ e0 hbd (.cons rfl .nil) hsp) fun r s' hq => ?_
    cases r with
    | error e => exact hq.elim
    | ok fl =>
      cases fl with
      | next => exact hq.elim
      | brk => exact hq.elim
      | cont => exact hq.elim
      | ret u =>
        obtain ⟨v, H', hos, hbare, un, hok', r', q⟩ := hq
        have q : v = .bl true := q
        subst q
        have r' : u = Value.bool true := r'
        subst r'
        refine ⟨rfl, OldK.of_keep fun b o e => ?_, hos, hbare⟩
        rcases hO b with z | ⟨ob, xs, z⟩
        · exact un.keep b o e z (fun z => absurd (show b ∈ ([] : List Addr) from z) (by simp)) (by simp)
        · obtain ⟨q1, _⟩ := hok b _ z
          obtain ⟨q2, _⟩ := hok' b _ (un.frzs b ob _ z)
          rw [q1] at e
          cases e
          exact q2
  have lenV := hi.length
  cases hk : K.lookup sa with
  | some o =>
    have e := KX sa o hk
    rw [hs] at e
    cases e
    exact main (fun _ => none) (fun _ => .inl rfl) (.inr ⟨_, us.toArray, _, hk, rfl, rfl, rfl, by rw [List.size_toArray, lenV]; exact hln, by simpa using rv⟩) (fun b u z => nomatch z) (fun b z => absurd rfl z)
  | none =>
    have at_sa : ∀ b u, (if b = sa then some (HO.frz { cls := .type "list", data := .seq us.toArray } (.lst (ns.map V.int))) else none) = some u → b = sa ∧ u = HO.frz { cls := .type "list", data := .seq us.toArray } (.lst (ns.map V.int)) := fun b u z => by
      by_cases hb : b = sa
      · rw [if_pos hb] at z; cases z; exact ⟨hb, rfl⟩
      · rw [if_neg hb] at z; cases z
    refine main (fun b => if b = sa then some (.frz { cls := .type "list", data := .seq us.toArray } (.lst (ns.map V.int))) else none) (fun b => ?_) (.inl (.inr ⟨_, if_pos rfl⟩)) (fun b u z => ?_) (fun b z => ?_)
    · by_cases hb : b = sa
      · exact .inr ⟨_, _, if_pos hb⟩
      · exact .inl (if_neg hb)
    · obtain ⟨rfl, rfl⟩ := at_sa b u z
      exact ⟨hs, by rw [List.length_map]; exact hln, us, _, rv, hs⟩
    · by_cases hb : b = sa
      · exact ⟨hb, hk⟩
      · exact absurd (if_neg hb) z
theorem walk_q {l : PySem.W.OpenLaw} {k : Nat} {q : Program} {loose : List Str} {XP : (Str → Option Value) → Heap → Prop} {YP : World → Heap → Prop} {d : DefRec} {K : Params → PySem.W.Frag} {φ : List Val → Sto → Option (Val × Sto)}
    (hn : l.most = some 63) (hdf : d.params.defaults = []) (hr : Room k callerA) (hY : ∀ (w : World) (h : Heap), YP w h → (K w.params).In h)
    (D : ∀ (w : World) (mg : Str → Option Value) (h : Heap), (K w.params).In h → h.Ns mainGlobals mg → ∀ base : Heap, (K w.params).In base → base.Ns mainGlobals mg → DefOk l.prog w (K w.params) mg base k d.name 1 φ)
    (hφ : ∀ ns : List Int, ns.length ≤ 63 → ∃ S', φ [.s ns] [] = some (.d (.bool true), S')) : PySem.W.WalkO q loose XP YP l.row.toRowW d [] (fun f vs => PySem.call f vs) := by
  refine Att.attach_call hn hdf fun w s0 s1 mg mb fa o pm cd doc a vs ns G Y ho hd hcd hmg hobj hints hlen hg => ?_
  have KX := hY w _ Y
  exact call_q KX G.T.g G.T.b G.T.builtins G.T.nolimit hg hobj hints (Nat.le_trans hlen (by rw [sizeLine_eq]; decide)) hr hmg (fun base => D w mg _ KX G.T.g base) (hφ ns hlen)
end QL

namespace QL
open PySem PySem.Spec PyProof.Rows L2
/-- turns that a while may take -/
def fuelW : Nat := 1000000
/-! ### what a body does, as a function: its value, and the store without what it made (but j new cells) -/
section
open Classical
noncomputable def φof (nN j : Nat) (fb : Sf) : List Val → Sto → Option (Val × Sto) := fun as S => match fb (initR nN as) S with
  | some (.rt r, _, S1) => if Keep S (S1.take (S.length + j)) r then some (r, S1.take (S.length + j)) else none
  | some (.nx, _, S1) => if Keep S (S1.take (S.length + j)) (.d .none) then some (.d .none, S1.take (S.length + j)) else none
  | _ => none
theorem does_of (nN n j : Nat) (fb : Sf) : Does nN n fb (φof nN j fb) := fun as S r S' _ h => by
  unfold φof at h
  split at h
  · rename_i r1 ρ1 S1 q
    split at h
    · rename_i hk
      cases h
      exact ⟨_, ρ1, S1.drop (S.length + j), by rw [List.take_append_drop]; exact q, .inl rfl, .inr hk⟩
    · cases h
  · rename_i ρ1 S1 q
    split at h
    · rename_i hk
      cases h
      exact ⟨_, ρ1, S1.drop (S.length + j), by rw [List.take_append_drop]; exact q, .inr ⟨rfl, rfl⟩, .inr hk⟩
    · cases h
  · cases h
theorem φof_eq {nN j : Nat} {fb : Sf} {as : List Val} {S S' T : Sto} {r : Val} {ρ' : Rho} (h : fb (initR nN as) S = some (.rt r, ρ', S' ++ T)) (hl : S'.length = S.length + j) (hk : Keep S S' r) : φof nN j fb as S = some (r, S') := by
  have e : (S' ++ T).take (S.length + j) = S' := by rw [← hl, List.take_left']; rfl
  unfold φof
  simp only [h, e, if_pos hk]
theorem φof_nx {nN j : Nat} {fb : Sf} {as : List Val} {S S' T : Sto} {ρ' : Rho} (h : fb (initR nN as) S = some (.nx, ρ', S' ++ T)) (hl : S'.length = S.length + j) (hk : Keep S S' (.d .none)) : φof nN j fb as S = some (.d .none, S') := by
  have e : (S' ++ T).take (S.length + j) = S' := by rw [← hl, List.take_left']; rfl
  unfold φof
  simp only [h, e, if_pos hk]
end
/-- the same, with all that it made -/
def φall (nN : Nat) (fb : Sf) : List Val → Sto → Option (Val × Sto) := fun as S => match fb (initR nN as) S with
  | some (.rt r, _, S1) => some (r, S1)
  | some (.nx, _, S1) => some (.d .none, S1)
  | _ => none
theorem does_all (nN n : Nat) (fb : Sf) : Does nN n fb (φall nN fb) := fun as S r S' _ h => by
  unfold φall at h
  split at h
  · rename_i r1 ρ1 S1 q
    cases h
    exact ⟨_, ρ1, [], by rw [List.append_nil]; exact q, .inl rfl, .inl rfl⟩
  · rename_i ρ1 S1 q
    cases h
    exact ⟨_, ρ1, [], by rw [List.append_nil]; exact q, .inr ⟨rfl, rfl⟩, .inl rfl⟩
  · cases h
/-- a def that calls itself, to a depth -/
noncomputable def recφ (nN j : Nat) (fb : (List Val → Sto → Option (Val × Sto)) → Sf) : Nat → List Val → Sto → Option (Val × Sto)
  | 0 => fun _ _ => none
  | n + 1 => φof nN j (fb (recφ nN j fb n))
theorem def_none {K : PySem.W.Frag} {P : Program} {w : World} {mg : Str → Option Value} {base : Heap} {k n : Nat} {x qual : Str} {st : Stmt} {f : Addr} {fd : FuncData} {ps : List Str} (F : Fun K x qual st f fd) (gm : mg x = some (.ref f)) (hb : Binds K fd ps []) (hn : ps.length = n) :
    DefOk P w K mg base k x n fun _ _ => none :=
  ⟨f, fd, ps, hn, (fun A outer s H args us vs Q hr e0 hbd r hsp => (by
    obtain ⟨F0, m0, as, S, rr, S', h1, ok, rv, ep, kk⟩ := hsp
    cases ep) : FnG P w K mg base k f fd ps n fun _ _ => none), gm, F.kp, hb⟩
end QL

namespace QL
open PySem PySem.Spec PyProof.Rows L2
section
variable {X : Cx} {K : PySem.W.Frag} {a b c e tg : Expr} {es : List Expr} {pos p p2 pos2 : Pos} {fa fb : Ef} {fs : Af}
def gIsB (neg : Bool) : Val → Val → Sto → Option (Val × Sto)
  | .d (.bool a), .d (.bool b), S => some (.d (.bool (xor neg (decide (a = b)))), S)
  | _, _, _ => none
theorem og_isB : OpG X (compareOp .Is) (gIsB false) := ⟨_, op_isBl, fun F m H S a b v u res S' ok ra rb e Q k => by
  unfold gIsB at e
  split at e
  · cases e
    exact ⟨_, _, rv_bool.mp ra, rv_bool.mp rb, k.here ok (rv_bool.mpr (by rw [Bool.false_xor]))⟩
  · cases e⟩
theorem og_isnotB : OpG X (compareOp .IsNot) (gIsB true) := ⟨_, op_notBl, fun F m H S a b v u res S' ok ra rb e Q k => by
  unfold gIsB at e
  split at e
  · cases e
    exact ⟨_, _, rv_bool.mp ra, rv_bool.mp rb, k.here ok (rv_bool.mpr (by rw [Bool.true_xor]))⟩
  · cases e⟩
/-! ### methods without arguments -/
def eMt0 (g : Val → List Val → Sto → Option (Val × Sto)) (fo : Ef) : Ef := fun ρ S => bnd (fo ρ S) fun o S1 => if (viewL S1 o).isSome = true then g o [] S1 else none
theorem ee_mt0 {x : Str} {apos : Pos} {id : String} {r : V → List V → Hp → VK → Prop} {g : Val → List Val → Sto → Option (Val × Sto)} (slot : Slot "list" x id) (hty : typeOf (.builtin id) = pure (.type "method_descriptor")) (hm : MtR X id r) (hg : RM X.K r g) (ho : EE X a fa)
    (hbase : attributeBase a x X.env (eval a X.env) = eval a X.env := by rfl) (hline : (apos.endLine == pos.line) = true := by rfl) : EE X (.Call (.Attribute a x apos) [] [] pos) (eMt0 g fa) :=
  ee_of (pe_bm0 PySem.F.plainAttrs_list slot hty hm ho hbase hline) fun F m H S ρ σ res S' ok ro e Q k => by
    obtain ⟨o, S1, e1, e⟩ := bnd_inv e
    split at e
    · rename_i hv
      refine sndE ok ro e1 _ fun v F1 m1 H1 st1 ok1 r1 => ?_
      obtain ⟨xs, hv⟩ := Option.isSome_iff_exists.mp hv
      obtain ⟨p, ws, rfl, q1, q2⟩ := viewL_ok ok1 hv r1
      exact ⟨.inl ⟨rfl, ws, q1⟩, hg ok1 r1 .nil e Q (k.on st1)⟩
    · cases e
def gPop : Val → List Val → Sto → Option (Val × Sto)
  | .c k, [], S => match S[k]? with
    | some (.lst xs) => match xs[xs.length - 1]? with
      | some y => some (y, S.set k (.lst xs.dropLast))
      | none => none
    | _ => none
  | _, _, _ => none
theorem rm_pop : RM K rPop gPop := fun F m H S a as v vs res S' ok ra rs e Q k => by
  unfold gPop at e
  split at e
  · rename_i kk
    split at e
    · rename_i xs h1
      split at e
      · rename_i y hy
        cases e
        obtain ⟨p, hm, rfl⟩ := ra
        obtain ⟨hF, ws, h3, h4⟩ := ok.cell _ _ _ hm h1
        cases rs
        obtain ⟨u, hu, ru⟩ := pr_get h4 hy
        obtain ⟨ok2, st2⟩ := al_M ok hm h1 (pr_dropLast h4)
        exact ⟨p, ws, u, rfl, rfl, h3, by rw [← pr_len h4]; exact hu, k _ _ _ _ st2 ok2 ru⟩
      · cases e
    · cases e
  · cases e
def gReverse : Val → List Val → Sto → Option (Val × Sto)
  | .c k, [], S => match S[k]? with
    | some (.lst xs) => some (.d .none, S.set k (.lst xs.reverse))
    | _ => none
  | _, _, _ => none
theorem rm_reverse : RM K rReverse gReverse := fun F m H S a as v vs res S' ok ra rs e Q k => by
  unfold gReverse at e
  split at e
  · rename_i kk
    split at e
    · rename_i xs h1
      cases e
      obtain ⟨p, hm, rfl⟩ := ra
      obtain ⟨hF, ws, h3, h4⟩ := ok.cell _ _ _ hm h1
      cases rs
      obtain ⟨ok2, st2⟩ := al_M ok hm h1 (pr_reverse h4)
      exact ⟨p, ws, rfl, rfl, h3, k _ _ _ _ st2 ok2 (rv_none.mpr rfl)⟩
    · cases e
  · cases e
def gClear : Val → List Val → Sto → Option (Val × Sto)
  | .c k, [], S => match S[k]? with
    | some (.lst xs) => some (.d .none, S.set k (.lst []))
    | _ => none
  | _, _, _ => none
theorem rm_clear : RM K rClear gClear := fun F m H S a as v vs res S' ok ra rs e Q k => by
  unfold gClear at e
  split at e
  · rename_i kk
    split at e
    · rename_i xs h1
      cases e
      obtain ⟨p, hm, rfl⟩ := ra
      obtain ⟨hF, ws, h3, h4⟩ := ok.cell _ _ _ hm h1
      cases rs
      obtain ⟨ok2, st2⟩ := al_M (ys := []) (vs := []) ok hm h1 .nil
      exact ⟨p, ws, rfl, rfl, h3, k _ _ _ _ st2 ok2 (rv_none.mpr rfl)⟩
    · cases e
  · cases e
section
variable {apos : Pos}
theorem ee_pop (ho : EE X a fa) (hbase : attributeBase a "pop" X.env (eval a X.env) = eval a X.env := by rfl) (hline : (apos.endLine == pos.line) = true := by rfl) : EE X (.Call (.Attribute a "pop" apos) [] [] pos) (eMt0 gPop fa) := ee_mt0 PySem.F.slot_list_pop PySem.F.type_list_pop mt_pop rm_pop ho hbase hline
theorem ee_reverse (ho : EE X a fa) (hbase : attributeBase a "reverse" X.env (eval a X.env) = eval a X.env := by rfl) (hline : (apos.endLine == pos.line) = true := by rfl) : EE X (.Call (.Attribute a "reverse" apos) [] [] pos) (eMt0 gReverse fa) := ee_mt0 PySem.F.slot_list_reverse PySem.F.type_list_reverse mt_reverse rm_reverse ho hbase hline
theorem ee_clear (ho : EE X a fa) (hbase : attributeBase a "clear" X.env (eval a X.env) = eval a X.env := by rfl) (hline : (apos.endLine == pos.line) = true := by rfl) : EE X (.Call (.Attribute a "clear" apos) [] [] pos) (eMt0 gClear fa) := ee_mt0 PySem.F.slot_list_clear PySem.F.type_list_clear mt_clear rm_clear ho hbase hline
end
/-! ### extend, index, remove -/
open AutoSeq1 (wpAny_loadPart') in
theorem meets_extendT (l : Addr) (items : Array Value) (n : Nat) (b : Addr) (items2 : Array Value) (n2 : Nat) (dct : Option Addr) (sl : Array (Option Value)) (hs0 : ¬(!items.isEmpty && Builtin.List.listTooLong (items.size + items2.size)) = true) (hs1 : items.size ≤ sizeLine) (hs2 : items.size + items2.size ≤ sizeLine + 1) :
    Meets (Builtin.«list.extend» ⟨[.ref l, .ref b], []⟩) (fun _ R s => s.heap.get? l = some { cls := .type "list", dict := none, data := .seq items n, slots := #[] } ∧ s.heap.get? b = some { cls := .type "tuple", dict := dct, data := .seq items2 n2, slots := sl } ∧ R (.ok (.ret Value.none)) { s with heap := s.heap.update l (Obj.mapSeq fun x => x ++ items2), toks := s.toks }) :=
  .of_wp fun prog w A R s h => by
    obtain ⟨hp, g, d, tk, os⟩ := s; obtain ⟨hl, hb, h⟩ := h; have f1 := AutoSeq1.idx_int; have f2 := AutoSeq1.sub_tuple_tuple; have f3 := AutoSeq1.sub_list_list; have f4 := AutoSeq1.sub_tuple_list; have f5 := AutoSeq1.sub_list_tuple;
    have hz' : (items ++ items2).size ≤ sizeLine + 1 := by rw [Array.size_append]; exact hs2
    wp_walk using (wpAny_updateSeq hl rfl (hz := hs1) (_hz' := hz')), wpAny_loadPart' hl, wpAny_loadPart' hb; exact ⟨_, rfl, h⟩
def rExtA (K : PySem.W.Frag) : V → List V → Hp → VK → Prop := fun x vs H Q => ∃ l b xs zs, x = .ref l ∧ vs = [.ref b] ∧ H l = some (.lst xs) ∧ (H b = some (.lst zs) ∨ SqT K H b zs) ∧ xs.length + zs.length ≤ sizeLine ∧ Q .non (upd H l (.lst (xs ++ zs)))
theorem mt_extendA : MtR X "list.extend" (rExtA X.K) := by
  intro pins s σ H x vs v us Q I rx rv h
  obtain ⟨l, b, xs, zs, rfl, rfl, hH, hB, hz, q⟩ := h
  rcases hB with hB | hB
  · exact mt_extend _ _ _ _ _ _ _ _ _ I rx rv ⟨l, b, xs, zs, rfl, rfl, hH, hB, hz, q⟩
  cases rx
  obtain ⟨u, rfl, ru⟩ := rv.one
  cases ru
  obtain ⟨z, its, n, r, hl, e⟩ := I.lstM hH
  obtain ⟨its2, r2, ⟨⟨c, dct, dt, sl⟩, e2, hc, n2, hd⟩, hl2⟩ := I.tuple hB
  replace hc : c = .type "tuple" := hc
  replace hd : dt = .seq its2.toArray n2 := hd
  subst hc hd
  have hlz := r2.length
  have hsz : its.toArray.size + its2.toArray.size ≤ sizeLine := by rw [List.size_toArray, List.size_toArray]; omega
  have hlong : ¬ (!its.toArray.isEmpty && Builtin.List.listTooLong (its.toArray.size + its2.toArray.size)) = true := by
    rw [notLongL hsz, Bool.and_false]
    exact Bool.false_ne_true
  refine call_meets F.slot_list_extend ⟨_, e, rfl⟩ F.entry_list_extend (F.args_list_extend_2 _ _)
    (meets_extendT l its.toArray n b its2.toArray n2 dct sl hlong (by rw [List.size_toArray]; omega) (by omega)) ⟨e, e2, ?_⟩
  refine ⟨.non, _, I.lset (its' := its ++ its2) hH e (by simp) (r.append r2) ?_, rfl, q⟩
  rw [List.length_append]
  omega
/-- the items of a list or a tuple -/
def viewE (S : Sto) : Val → Option (List Val)
  | .d (.tuple xs) => some (xs.map .d)
  | .t xs => some xs
  | a => viewS S a
def gExtend : Val → List Val → Sto → Option (Val × Sto)
  | .c k, [a], S => match S[k]?, viewE S a with
    | some (.lst xs), some zs => if xs.length + zs.length ≤ sizeLine then some (.d .none, S.set k (.lst (xs ++ zs))) else none
    | _, _ => none
  | _, _, _ => none
theorem rm_extend : RM K (rExtA K) gExtend := fun F m H S a as v vs res S' ok ra rs e Q k => by
  unfold gExtend at e
  split at e
  · rename_i kk a
    split at e
    · rename_i xs zs h1 h2
      split at e
      · rename_i hz
        cases e
        obtain ⟨p, hm, rfl⟩ := ra
        obtain ⟨hF, ws, h3, h4⟩ := ok.cell _ _ _ hm h1
        cases rs with
        | @cons _ v1 _ _ r1 t =>
          cases t
          have key : ∃ b us, v1 = V.ref b ∧ (H b = some (.lst us) ∨ SqT K H b us) ∧ Paired (RV K F m) zs us := by
            unfold viewE at h2
            split at h2
            · cases h2
              obtain ⟨b, us, rfl, h5, h6⟩ := rv_tuple.mp r1
              exact ⟨b, us, rfl, .inr (same_t ok.ex h5), rp_rvs h6⟩
            · cases h2
              obtain ⟨b, us, rfl, h5, h6⟩ := rv_t.mp r1
              exact ⟨b, us, rfl, .inr (same_t ok.ex h5), h6⟩
            · obtain ⟨b, us, rfl, h5, h6⟩ := viewS_ok ok h2 r1
              exact ⟨b, us, rfl, .inl h5, h6⟩
          obtain ⟨b, us, rfl, h5, h6⟩ := key
          obtain ⟨ok2, st2⟩ := al_M ok hm h1 (pr_append h4 h6)
          exact ⟨p, b, ws, us, rfl, rfl, h3, h5, by rw [← pr_len h4, ← pr_len h6]; exact hz, k _ _ _ _ st2 ok2 (rv_none.mpr rfl)⟩
      · cases e
    · cases e
  · cases e
theorem ee_extend {apos : Pos} (ho : EE X a fa) (ha : EA X [e] fs)
    (hbase : attributeBase a "extend" X.env (eval a X.env) = eval a X.env := by rfl)
    (hfew : ((backTo pos (starEach [e] X.env)).all (fun x => !x.1) && (backToKw pos (keywordEach [] X.env)).all (fun x => x.1.isSome)
      && decide ([e].length + ([] : List Keyword).length + (if ([] : List Keyword).isEmpty then 0 else 1) < 30)) = true := by rfl)
    (hline : (apos.endLine == pos.line) = true := by rfl) (hs : starEach [e] X.env = (false, eval e X.env) :: starEach [] X.env := by rfl) (hplain : (backTo pos (starEach [] X.env)).any (·.1) = false := by rfl) :
    EE X (.Call (.Attribute a "extend" apos) [e] [] pos) (eMt gExtend fa fs) := ee_mt PySem.F.slot_list_extend PySem.F.type_list_extend mt_extendA rm_extend ho ha hbase hfew hline hs hplain
/-- x.remove(y), data -/
def rRemQ (K : PySem.W.Frag) : V → List V → Hp → VK → Prop := fun x xs H Q => ∃ (l : Addr) (ws : List V) (y : V) (ds : List PyData) (d : PyData) (j : Nat), x = .ref l ∧ xs = [y] ∧ H l = some (.lst ws) ∧ Paired (Rp K H) ds ws ∧ Rp K H d y ∧ PyData.plainAll ds = true ∧ d.plain = true ∧
  min (PyData.depthAll ds) d.depth ≤ 60 ∧ SeqAt.dataPlace ds d = some j ∧ Q .non (upd H l (.lst (ws.eraseIdx j)))
theorem mt_removeQ (hu : X.A.units + 62 < cLine) : MtR X "list.remove" (rRemQ X.K) := by
  intro pins s σ H x xs v us Q I rx rxs h
  obtain ⟨l, ws, y, ds, d, j, rfl, rfl, hH, hp, hy, h1, h2, h3, hj, q⟩ := h
  cases rx
  obtain ⟨u, rfl, ru⟩ := rxs.one
  obtain ⟨z, its, n, r, hl, e⟩ := I.lstM hH
  obtain ⟨as, ra⟩ := Dp.readsAll I ds ws its (rpa_dp ds ws (rpa_iff.mpr hp)) r
  obtain ⟨bs, rb⟩ := Dp.reads I d y u (rp_dp d y hy) ru
  have hjl : j < ds.length := (List.findIdx?_eq_some_iff_getElem.mp hj).1
  have hlen := pr_len hp
  refine SeqAt.remove_list_data (vs := its.toArray) ⟨_, e, rfl, n, rfl⟩ (by simpa using ra) rb h1 h2 (by omega) hj (by rw [List.size_toArray]; omega) ?_
  refine ⟨.non, _, I.lset (its' := its.eraseIdx j) hH e ?_ (r.eraseIdx j) ?_, rfl, q⟩
  · show its.toArray.eraseIdxIfInBounds j = (its.eraseIdx j).toArray
    rw [List.eraseIdxIfInBounds_toArray]
  · have := len_erase ws j
    omega
def gRemove : Val → List Val → Sto → Option (Val × Sto)
  | .c k, [a], S => match S[k]?, look S (.c k), look S a with
    | some (.lst xs), some (.list ds), some d => if PyData.plainAll ds = true ∧ d.plain = true ∧ min (PyData.depthAll ds) d.depth ≤ 60 then (SeqAt.dataPlace ds d).map fun j => (.d .none, S.set k (.lst (xs.eraseIdx j))) else none
    | _, _, _ => none
  | _, _, _ => none
theorem rm_remove : RM K (rRemQ K) gRemove := fun F m H S a as v vs res S' ok ra rs e Q k => by
  unfold gRemove at e
  split at e
  · rename_i kk a
    split at e
    · rename_i xs ds d h1 h2 h3
      split at e
      · rename_i hz
        cases hj : SeqAt.dataPlace ds d with
        | none => rw [hj] at e; cases e
        | some j =>
          rw [hj] at e
          cases e
          obtain ⟨q, vs', e1, h4, h5⟩ := rp_list.mp (look_ok ok h2 ra)
          obtain ⟨p, hm, rfl⟩ := ra
          cases e1
          obtain ⟨hF, ws, h6, h7⟩ := ok.cell _ _ _ hm h1
          rw [h6] at h4
          cases h4
          cases rs with
          | cons r1 t =>
            cases t
            obtain ⟨ok2, st2⟩ := al_M ok hm h1 (pr_erase j h7)
            exact ⟨_, _, _, ds, d, j, rfl, rfl, h6, h5, look_ok ok h3 r1, hz.1, hz.2.1, hz.2.2, hj, k _ _ _ _ st2 ok2 (rv_none.mpr rfl)⟩
      · cases e
    · cases e
  · cases e
theorem ee_remove {apos : Pos} (hu : X.A.units + 62 < cLine) (ho : EE X a fa) (ha : EA X [e] fs)
    (hbase : attributeBase a "remove" X.env (eval a X.env) = eval a X.env := by rfl)
    (hfew : ((backTo pos (starEach [e] X.env)).all (fun x => !x.1) && (backToKw pos (keywordEach [] X.env)).all (fun x => x.1.isSome)
      && decide ([e].length + ([] : List Keyword).length + (if ([] : List Keyword).isEmpty then 0 else 1) < 30)) = true := by rfl)
    (hline : (apos.endLine == pos.line) = true := by rfl) (hs : starEach [e] X.env = (false, eval e X.env) :: starEach [] X.env := by rfl) (hplain : (backTo pos (starEach [] X.env)).any (·.1) = false := by rfl) :
    EE X (.Call (.Attribute a "remove" apos) [e] [] pos) (eMt gRemove fa fs) := ee_mt PySem.F.slot_list_remove PySem.F.type_list_remove (mt_removeQ hu) rm_remove ho ha hbase hfew hline hs hplain
def gIndex : Val → List Val → Sto → Option (Val × Sto)
  | o, [a], S => match look S o, look S a with
    | some (.list ds), some d => if SeqAt.shaped (.list ds) = true ∧ SeqAt.shaped d = true then (SeqAt.dataPlace ds d).map fun j => (.d (.int j), S) else none
    | _, _ => none
  | _, _, _ => none
theorem rm_index : RM K (rIndexD K) gIndex := fun F m H S a as v vs res S' ok ra rs e Q k => by
  unfold gIndex at e
  split at e
  · rename_i o a
    split at e
    · rename_i ds d h2 h3
      split at e
      · rename_i hz
        cases hj : SeqAt.dataPlace ds d with
        | none => rw [hj] at e; cases e
        | some j =>
          rw [hj] at e
          cases e
          cases rs with
          | cons r1 t =>
            cases t
            have hr := look_ok ok h2 ra
            obtain ⟨q, vs', rfl, h4, h5⟩ := rp_list.mp hr
            obtain ⟨hl, h6, h7⟩ := List.findIdx?_eq_some_iff_getElem.mp hj
            refine ⟨q, _, d, ds, j, ds[j], rfl, rfl, rp_dp _ _ hr, rp_dp _ _ (look_ok ok h3 r1), hz.1, hz.2, List.getElem?_eq_getElem hl, h6, fun m z' hm hz' => ?_, k.here ok (rv_int.mpr rfl)⟩
            obtain ⟨hml, e2⟩ := List.getElem?_eq_some_iff.mp hz'
            have := h7 m hm
            rw [e2] at this
            simpa using this
      · cases e
    · cases e
  · cases e
theorem ee_index {apos : Pos} (hu : X.A.units + 65 < cLine) (ho : EE X a fa) (ha : EA X [e] fs)
    (hbase : attributeBase a "index" X.env (eval a X.env) = eval a X.env := by rfl)
    (hfew : ((backTo pos (starEach [e] X.env)).all (fun x => !x.1) && (backToKw pos (keywordEach [] X.env)).all (fun x => x.1.isSome)
      && decide ([e].length + ([] : List Keyword).length + (if ([] : List Keyword).isEmpty then 0 else 1) < 30)) = true := by rfl)
    (hline : (apos.endLine == pos.line) = true := by rfl) (hs : starEach [e] X.env = (false, eval e X.env) :: starEach [] X.env := by rfl) (hplain : (backTo pos (starEach [] X.env)).any (·.1) = false := by rfl) :
    EE X (.Call (.Attribute a "index" apos) [e] [] pos) (eMt gIndex fa fs) := ee_mt PySem.F.slot_list_index PySem.F.type_list_index (mt_indexD hu) rm_index ho ha hbase hfew hline hs hplain
/-! ### xs[::-1], list(range(..)), reversed(..) -/
def eRev (md : Md) (fa : Ef) : Ef := fun ρ S => bnd (fa ρ S) fun o S1 => match viewL S1 o with
  | some xs => alloc md xs.reverse S1
  | none => none
theorem ee_rev (md : Md) {k : Nat} {p1 p3 : Pos} (ha : EE X a fa) : EE X (.Subscript a (.Slice none none (some (.UnaryOp .USub (.Constant (.int 1) k p1) p2)) p3) pos) (eRev md fa) :=
  ee_of (L2.pe_revL ha) fun F m H S ρ σ res S' ok ro e Q k => by
    obtain ⟨o, S1, e1, e⟩ := bnd_inv e
    refine sndE ok ro e1 _ fun v F1 m1 H1 st1 ok1 r1 => ?_
    split at e
    · rename_i xs hx
      obtain ⟨p, ws, rfl, q1, q2⟩ := viewL_ok ok1 hx r1
      exact ⟨p, ws, rfl, q1, fun q hq => alloc_ok ok1 (pr_reverse q2) e (k.on st1) hq⟩
    · cases e
def eLR1 (md : Md) (fa : Ef) : Ef := fun ρ S => bnd (fa ρ S) fun o S1 => match o with
  | .d (.int n) => if -(2 ^ 62) ≤ n ∧ n ≤ 16777216 then alloc md ((rngD 0 n.toNat).map .d) S1 else none
  | _ => none
theorem rgV_rng (lo hi : Int) : Paired (RV K F m) ((rngD lo (hi - lo).toNat).map Val.d) (rgV lo hi) := by
  refine rp_rvs ?_
  unfold rngD rgV
  refine pr_map (R := fun (i : Nat) v => v = V.int (lo + (i : Nat))) (fun c b h => rp_int.mpr h) ?_
  have : ∀ xs : List Nat, Paired (fun (i : Nat) v => v = V.int (lo + (i : Nat))) xs (xs.map fun i => V.int (lo + (i : Nat))) := fun xs => by
    induction xs with
    | nil => exact .nil
    | cons x xs ih => exact .cons rfl ih
  exact this _
theorem ee_lr1 (md : Md) (hml : X.mg "list" = none) (hmr : X.mg "range" = none) (ha : EE X a fa) (hgl : Gl X "list" := by rfl) (hgr : Gl X "range" := by rfl) (hc : X.calm = true := by rfl)
    (na : starEach [a] X.env = (false, eval a X.env) :: starEach [] X.env := by rfl) (na2 : starEach [.Call (.Name "range" p2) [a] [] pos2] X.env = (false, eval (.Call (.Name "range" p2) [a] [] pos2) X.env) :: starEach [] X.env := by rfl) :
    EE X (.Call (.Name "list" p) [.Call (.Name "range" p2) [a] [] pos2] [] pos) (eLR1 md fa) :=
  ee_of (L2.pe_listRg hc hgl hml (L2.prg_1 hgr hmr ha na) na2) fun F m H S ρ σ res S' ok ro e Q k => by
    obtain ⟨o, S1, e1, e⟩ := bnd_inv e
    refine sndE ok ro e1 _ fun v F1 m1 H1 st1 ok1 r1 => ?_
    split at e
    · rename_i n
      split at e
      · rename_i hz
        cases rv_int.mp r1
        refine ⟨n, rfl, ⟨by omega, by omega, by omega, by omega, by omega⟩, fun q hq => ?_⟩
        have := rgV_rng (K := X.K) (F := F1) (m := m1) 0 n
        rw [Int.sub_zero] at this
        exact alloc_ok ok1 this e (k.on st1) hq
      · cases e
    · cases e
/-! ### sorted(xs), data -/
open Classical in
def SortOk (ds : List PyData) : Prop := PySem.W.AllAlike ds ∧ PySem.W.Sortable ds ∧ (∀ d ∈ ds, d.depth ≤ 60)
def sortD (ds : List PyData) : List PyData := ds.mergeSort (PySem.W.dataLe false id)
def rSortedQ (K : PySem.W.Frag) : List V → Hp → VK → Prop := fun vs H Q => ∃ (F : Hp) (a : Addr) (ws : List V) (ds : List PyData), Same F H ∧ vs = [V.ref a] ∧ SqL K H a ws ∧ Paired (Rp K F) ds ws ∧ SortOk ds ∧
  ∀ (ws' : List V) (p : Addr), Paired (Rp K F) (sortD ds) ws' → H p = none → Q (.ref p) (upd H p (.lst ws'))
theorem each_of {K : PySem.W.Frag} {H : Hp} : ∀ {ds : List PyData} {ws : List V} {its : List Value}, Paired (Rp K H) ds ws → Vals ws its → PySem.W.EachIs (fun v b => ∃ u, RelV u v ∧ Rp K H b u) its ds
  | _, _, _, .nil, .nil => .nil
  | _, _, _, .cons r t, .cons q u => .cons ⟨_, q, r⟩ (each_of t u)
theorem of_each {K : PySem.W.Frag} {H : Hp} : ∀ {ds : List PyData} {its : List Value}, PySem.W.EachIs (fun v b => ∃ u, RelV u v ∧ Rp K H b u) its ds → ∃ ws, Paired (Rp K H) ds ws ∧ Vals ws its
  | _, _, .nil => ⟨[], .nil, .nil⟩
  | _, _, .cons ⟨u, q, r⟩ t => by
    obtain ⟨ws, h1, h2⟩ := of_each t
    exact ⟨u :: ws, .cons r h1, .cons q h2⟩
theorem cr_sortedQ (hu : X.A.units + 63 < cLine) : CallR X (.builtin "sorted") (rSortedQ X.K) := by
  intro pins s σ H vs us Q I r h
  obtain ⟨F, a, ws, ds, hF, rfl, hs, hp, ⟨h1, h2, h3⟩, q⟩ := h
  obtain ⟨its, rv, hl, hz⟩ := I.list hs
  rw [Vals.ref1 r]
  have ei := each_of hp rv
  have er : PySem.W.EachIs (fun v b => ∃ as, Reads s.heap v (id b) as) its ds := ei.mono fun v b ⟨u, q1, q2⟩ => Dp.reads I b u v (rp_dp b u (rp_mono hF b u q2)) q1
  refine PySem.W.sorted_data (enc := id) (bs := ds) hl.isList ei er (by rw [List.map_id]; exact h1) (by rw [List.map_id]; exact h2) (by rw [← ei.length, ← rv.length]; exact hz) (fun b hb => by have := h3 b hb; show _ + 2 + b.depth < _; omega) fun out ho eo => ?_
  obtain ⟨ws', k1, k2⟩ := of_each eo
  obtain ⟨ep, he'⟩ := PyProof.Rows.sortedAll_at s.heap its out.toArray
  have hlen : ws'.length ≤ sizeLine := by
    rw [k2.length, ho, ← ei.length, ← rv.length]
    exact hz
  exact ⟨.ref _, upd H (s.heap.objs.size + 1) (.lst ws'), I.laid (t' := s.toks) (fun _ _ => PyProof.Rows.sortedAll_old) (Nat.le_succ _) ⟨hlen, out, ep, k2, he'⟩, rfl, q ws' _ k1 (I.hok.fresh (Nat.le_succ _))⟩
open Classical in
noncomputable def gSorted (md : Md) : List Val → Sto → Option (Val × Sto)
  | [a], S => match viewS S a with
    | some xs => match unD xs with
      | some ds => if SortOk ds then alloc md ((sortD ds).map .d) S else none
      | none => none
    | _ => none
  | _, _ => none
theorem cg_sorted (md : Md) (hu : X.A.units + 63 < cLine) : CallG X (.builtin "sorted") (gSorted md) := ⟨_, cr_sortedQ hu, fun F m H S as vs res S' ok rs e Q k => by
  unfold gSorted at e
  split at e
  · rename_i a
    split at e
    · rename_i xs hd
      split at e
      · rename_i ds hx
        split at e
        · rename_i hz
          cases rs with
          | cons r1 t =>
            cases t
            obtain ⟨p, ws, rfl, h1, h2⟩ := viewS_ok ok hd r1
            exact ⟨F, p, ws, ds, ok.ex, rfl, .of h1, unD_ok hx h2, hz, fun ws' q h3 hq => alloc_ok ok (rp_rvs h3) e k hq⟩
        · cases e
      · cases e
    · cases e
  · cases e⟩
/-! ### reversed(..) in a loop -/
theorem hu65 {A : Around} {k : Nat} (hr : RoomG k A) : A.units + 63 < cLine := by have := hr.room.un; omega
theorem hu65b {A : Around} {k : Nat} (hr : RoomG k A) : A.units + 62 < cLine := by have := hr.room.un; omega
theorem hu65c {A : Around} {k : Nat} (hr : RoomG k A) : A.units + 65 < cLine := by have := hr.room.un; omega
end
end QL

namespace QL
open PySem PySem.Spec PyProof.Rows L2
section
variable {X : Cx} {K : PySem.W.Frag} {a b c e : Expr} {es : List Expr} {pos : Pos} {f g h : Tf} {fa fb fc : Ef} {fs : Af} {st : Stmt} {rest : List Stmt} {u v : Sf}
/-! ### walks over what may change: the item at each turn is asked of the store -/
abbrev Dy := Sto → Nat → Option (Option Val)
abbrev Jf := Rho → Sto → Option (Dy × Sto)
def ItDy (K : PySem.W.Frag) (J : It) (m0 : List Addr) (F : Hp) (dy : Dy) : Prop := ∀ i F1 m1 H1 S1, Same F F1 → (∃ t, m1 = m0 ++ t) → SOk K F1 m1 H1 S1 →
  (∀ x, dy S1 i = some (some x) → J.go i H1 ∧ ∀ v H2, J.yld i H1 v H2 → ∃ F2, Stp F1 m1 H1 F2 m1 H2 ∧ SOk K F2 m1 H2 S1 ∧ RV K F2 m1 x v ∧ (∀ a o, H1 a = some o → H2 a = some o)) ∧ (dy S1 i = some none → J.stop i H1)
def tJ (K : PySem.W.Frag) (f : Jf) : TI := fun σ H R => ∃ F m S ρ dy S', SOk K F m H S ∧ ROk K F m ρ σ ∧ f ρ S = some (dy, S') ∧ ∀ J F' m' H', Stp F m H F' m' H' → SOk K F' m' H' S' → ItDy K J m' F' dy → R J H'
def EJ (X : Cx) (tg iter : Expr) (f : Jf) : Prop := PI X tg iter (tJ X.K f)
def SndJ (K : PySem.W.Frag) (w : TI) (f : Jf) : Prop := ∀ ⦃F m H S ρ σ dy S'⦄, SOk K F m H S → ROk K F m ρ σ → f ρ S = some (dy, S') → ∀ R : It → Hp → Prop, (∀ J F' m' H', Stp F m H F' m' H' → SOk K F' m' H' S' → ItDy K J m' F' dy → R J H') → w σ H R
theorem ej_of {tg it : Expr} {t : TI} {f : Jf} (h : PI X tg it t) (s : SndJ X.K t f) : EJ X tg it f := ⟨fun pins s' σ H R I ⟨_, _, _, _, _, _, ok, ro, e, k⟩ => h.run pins s' σ H R I (s ok ro e R k)⟩
theorem sndJ {f : Jf} : SndJ K (tJ K f) f := fun _ _ _ _ _ _ _ _ ok ro e _ k => ⟨_, _, _, _, _, _, ok, ro, e, k⟩
def forD (dy : Dy) (fg : Gf) (fb : Sf) : Nat → Nat → Rho → Sto → Option (Fl × Rho × Sto)
  | 0, _, _, _ => none
  | n + 1, i, ρ, S => match dy S i with
    | some (some d) => match fg d ρ S with
      | some (ρ1, S1) => match fb ρ1 S1 with
        | some (.nx, ρ2, S2) => forD dy fg fb n (i + 1) ρ2 S2
        | some (.ct, ρ2, S2) => forD dy fg fb n (i + 1) ρ2 S2
        | some (.bk, ρ2, S2) => some (.nx, ρ2, S2)
        | some (.rt v, ρ2, S2) => some (.rt v, ρ2, S2)
        | none => none
      | none => none
    | some none => some (.nx, ρ, S)
    | none => none
def sForD (fi : Jf) (fg : Gf) (fb : Sf) : Sf := fun ρ S => match fi ρ S with
  | some (dy, S1) => forD dy fg fb fuelW 0 ρ S1
  | none => none
def lcD (dy : Dy) (fg : Gf) (ft : Tf) (fe : Ef) (ρ : Rho) : Nat → Nat → Sto → Option (List Val × Sto)
  | 0, _, _ => none
  | n + 1, i, S => match dy S i with
    | some (some d) => match fg d ρ S with
      | some (ρ1, S1) => match ft ρ1 S1 with
        | some (true, S2) => match fe ρ1 S2 with
          | some (x, S3) => match lcD dy fg ft fe ρ n (i + 1) S3 with
            | some (xs, S4) => some (x :: xs, S4)
            | none => none
          | none => none
        | some (false, S2) => lcD dy fg ft fe ρ n (i + 1) S2
        | none => none
      | none => none
    | some none => some ([], S)
    | none => none
def eLcD (md : Md) (fi : Jf) (fg : Gf) (ft : Tf) (fe : Ef) (vs : List Nat) : Ef := fun ρ S => match fi ρ S with
  | some (dy, S1) => match lcD dy fg ft fe (wipeR ρ vs) fuelW 0 S1 with
      | some (xs, S2) => alloc md xs S2
      | none => none
  | none => none
theorem snd_forD {fi : Jf} {fg : Gf} {fb : Sf} : SndS K (tFor (tJ K fi) (tG K fg) (tS K fb)) (sForD fi fg fb) := fun F m H S ρ σ fl ρ' S' ok ro e D k => by
  unfold sForD at e
  split at e
  · rename_i dy S1 q
    refine sndJ ok ro q _ fun J F1 m1 H1 st1 ok1 it => ?_
    refine ⟨fun i n σ2 H2 => ∃ F2 m2 S2 ρ2, Stp F1 m1 H1 F2 m2 H2 ∧ SOk K F2 m2 H2 S2 ∧ ROk K F2 m2 ρ2 σ2 ∧ forD dy fg fb n i ρ2 S2 = some (fl, ρ', S'), ⟨fuelW, F1, m1, S1, ρ, Stp.refl, ok1, ro_mono st1 ro, e⟩, ?_⟩
    rintro i n σ2 H2 ⟨F2, m2, S2, ρ2, st2, ok2, ro2, e2⟩
    obtain ⟨g1, g2⟩ := it i F2 m2 H2 S2 st2.ex st2.pre ok2
    cases n with
    | zero => cases e2
    | succ n =>
    rw [forD] at e2
    split at e2
    · rename_i d0 hdy
      obtain ⟨hgo, g3⟩ := g1 d0 hdy
      refine .inr ⟨hgo, fun σ3 H3 => ∃ F3 m3 S3 ρ3, Stp F1 m1 H1 F3 m3 H3 ∧ SOk K F3 m3 H3 S3 ∧ ROk K F3 m3 ρ3 σ3 ∧ forD dy fg fb n (i + 1) ρ3 S3 = some (fl, ρ', S'), fun σ3 H3 ⟨F3, m3, S3, ρ3, h⟩ => ⟨n, Nat.lt_succ_self n, F3, m3, S3, ρ3, h⟩, fun x H3 hy => ?_⟩
      obtain ⟨F3, st3, ok3, r3, _⟩ := g3 x H3 hy
      split at e2
      · rename_i ρ4 S4 q4
        refine sndG ok3 (ro_mono st3 ro2) (a := d0) r3 q4 _ fun σ4 F4 m4 H4 st4 ok4 ro4 => ?_
        have s4 := (st2.trans st3).trans st4
        split at e2
        · rename_i ρ5 S5 q5
          exact sndS ok4 ro4 q5 _ fun σ5 F5 m5 H5 st5 ok5 ro5 => ⟨F5, m5, S5, ρ5, s4.trans st5, ok5, ro5, e2⟩
        · rename_i ρ5 S5 q5
          exact sndS ok4 ro4 q5 _ fun σ5 F5 m5 H5 st5 ok5 ro5 => ⟨F5, m5, S5, ρ5, s4.trans st5, ok5, ro5, e2⟩
        · rename_i ρ5 S5 q5
          cases e2
          exact sndS ok4 ro4 q5 _ fun σ5 F5 m5 H5 st5 ok5 ro5 => k σ5 F5 m5 H5 ((st1.trans s4).trans st5) ok5 ro5
        · rename_i v ρ5 S5 q5
          cases e2
          exact sndS ok4 ro4 q5 _ fun w F5 m5 H5 st5 ok5 r5 => k w F5 m5 H5 ((st1.trans s4).trans st5) ok5 r5
        · cases e2
      · cases e2
    · rename_i hdy
      cases e2
      exact .inl ⟨g2 hdy, k σ2 F2 m2 H2 (st1.trans st2) ok2 ro2⟩
    · cases e2
  · cases e
theorem ss_forD {tg iter : Expr} {body : List Stmt} {fi : Jf} {fg : Gf} {fb : Sf} (hi : EJ X tg iter fi) (hg : EG X tg fg) (hb : SSs X body fb) (hp : PassesOwn (model X.prog X.w) X.A X.env X.xe := by exact PassesOwn.never) (hc : X.calm = true := by rfl)
    (hs : ∀ x, foldedSetIterable iter X.env x = pure x := by intro _; rfl) : SS X (.For tg iter body [] pos) (sForD fi fg fb) := ss_of (ps_for hp hc hi hg hb hs) snd_forD
theorem snd_lcD {md : Md} {fi : Jf} {tg : TG} {fg : Gf} {ft : Tf} {fe : Ef} {vs : List Nat} (hg : LcT K vs tg fg) : SndE K (tLc (tJ K fi) tg (tT K ft) (tE K fe) vs) (eLcD md fi fg ft fe vs) := fun F m H S ρ σ res S' ok ro e Q k => by
  unfold eLcD at e
  split at e
  · rename_i dy S1 q
    · split at e
      · rename_i xs S2 q2
        refine sndJ ok ro q _ fun J F1 m1 H1 st1 ok1 it => ?_
        intro D hD
        obtain ⟨hFD, hmD⟩ := ok1.none hD
        have ok1' : SOk K F1 m1 (upd H1 D (.lst [])) S1 := al_O ok1 hFD hmD
        have st0 : Stp F1 m1 H1 F1 m1 (upd H1 D (.lst [])) := ⟨Same.refl _, ⟨[], by simp⟩, fun _ h => .inl h, fun _ h h' => absurd h h', fun b o hb _ => by rw [upd_ne (ne_of_none hb hD)]; exact hb⟩
        -- what stays true from turn to turn
        refine ⟨fun i n H2 => i + n ≤ fuelW ∧ ∃ F2 m2 S3 acc ws ys, Stp F1 m1 H1 F2 m2 H2 ∧ SOk K F2 m2 H2 S3 ∧ F2 D = none ∧ D ∉ m2 ∧ H2 D = some (.lst ws) ∧ Paired (RV K F2 m2) acc ws ∧ acc.length ≤ i ∧ lcD dy fg ft fe (wipeR ρ vs) n i S3 = some (ys, S2) ∧ xs = acc ++ ys,
          ⟨fuelW, Nat.le_of_eq (Nat.zero_add _), F1, m1, S1, [], [], xs, st0, ok1', hFD, hmD, upd_same, .nil, Nat.le_refl _, q2, rfl⟩, ?_⟩
        rintro i n H2 ⟨hi, F2, m2, S3, acc, ws, ys, st2, ok2, hF2, hm2, hH2, hacc, hlen, e2, exs⟩
        obtain ⟨g1, g2⟩ := it i F2 m2 H2 S3 st2.ex st2.pre ok2
        have st12 := st2
        cases n with
        | zero => cases e2
        | succ n =>
        have hfw : fuelW < sizeLine := by rw [sizeLine_eq]; decide
        rw [lcD] at e2
        split at e2
        · rename_i d0 hdy
          obtain ⟨hgo, g3⟩ := g1 d0 hdy
          refine .inr ⟨hgo, fun H5 => ∃ F5 m5 S5 acc' ws' ys', Stp F1 m1 H1 F5 m5 H5 ∧ SOk K F5 m5 H5 S5 ∧ F5 D = none ∧ D ∉ m5 ∧ H5 D = some (.lst ws') ∧ Paired (RV K F5 m5) acc' ws' ∧ acc'.length ≤ i + 1 ∧ lcD dy fg ft fe (wipeR ρ vs) n (i + 1) S5 = some (ys', S2) ∧ xs = acc' ++ ys',
            fun H5 h => ⟨n, by omega, by omega, h⟩, fun x H3 hy => ?_⟩
          obtain ⟨F3, st3, ok3, r3, hkeep⟩ := g3 x H3 hy
          have hH3 := hkeep D _ hH2
          -- what a step says of D
          have onD : ∀ {Fa ma Ha Fb mb Hb}, Stp Fa ma Ha Fb mb Hb → Fa D = none → D ∉ ma → (∃ vs, Ha D = some (.lst vs)) → Fb D = none ∧ D ∉ mb := fun {Fa ma Ha Fb mb Hb} s h1 h2 h3 => by
            obtain ⟨vsD, h3⟩ := h3
            constructor
            · cases q9 : Fb D with
              | none => rfl
              | some o =>
                rcases s.newF D h1 (by rw [q9]; simp) with r | r | ⟨_, r⟩
                · exact absurd r h2
                · rw [h3] at r; cases r
                · rw [h3] at r; cases r
            · intro hmem
              rcases s.new D hmem with r | r
              · exact h2 r
              · rw [h3] at r; cases r
          obtain ⟨hF3, hm3⟩ := onD st3 hF2 hm2 ⟨_, hH2⟩
          split at e2
          · rename_i ρ4 S4 q4
            have ro3 : ROk K F3 m2 (wipeR ρ vs) (wipe σ vs) := ro_wipe (ro_mono (st1.trans (st12.trans st3)) ro) vs
            refine hg.snd ok3 ro3 (a := d0) r3 q4 _ fun eS σ4 ro4 ew => ?_
            subst eS
            refine ⟨by rw [ew, wipe_wipe], ?_⟩
            split at e2
            · rename_i S5 q5
              refine sndT ok3 ro4 q5 _ fun F5 m5 H5 st5 ok5 => ?_
              rw [if_pos rfl]
              obtain ⟨hF5, hm5⟩ := onD st5 hF3 hm3 ⟨_, hH3⟩
              have hH5 := st5.fr D _ hH3 hm3
              split at e2
              · rename_i y S6 q6
                refine sndE ok5 (ro_mono st5 ro4) q6 _ fun w F6 m6 H6 st6 ok6 r6 => ?_
                obtain ⟨hF6, hm6⟩ := onD st6 hF5 hm5 ⟨_, hH5⟩
                have hH6 := st6.fr D _ hH5 hm5
                have sall := ((st2.trans st3).trans st5).trans st6
                refine ⟨ws, hH6, by rw [← pr_len hacc]; omega, ?_⟩
                split at e2
                · rename_i zs S7 q7
                  cases e2
                  refine ⟨F6, m6, S6, acc ++ [y], ws ++ [w], zs, ⟨sall.ex, sall.pre, sall.new, sall.newF, fun b o hb hm => ?_⟩, al_O ok6 hF6 hm6, hF6, hm6, upd_same, pr_append (rvs_mono ((st3.trans st5).trans st6) hacc) (.cons r6 .nil), by simp; omega, q7, by rw [exs, List.append_assoc]; rfl⟩
                  rw [upd_ne (ne_of_none hb hD)]
                  exact sall.fr b o hb hm
                · cases e2
              · cases e2
            · rename_i S5 q5
              refine sndT ok3 ro4 q5 _ fun F5 m5 H5 st5 ok5 => ?_
              rw [if_neg Bool.false_ne_true]
              obtain ⟨hF5, hm5⟩ := onD st5 hF3 hm3 ⟨_, hH3⟩
              have hH5 := st5.fr D _ hH3 hm3
              exact ⟨F5, m5, S5, acc, ws, ys, (st2.trans st3).trans st5, ok5, hF5, hm5, hH5, rvs_mono (st3.trans st5) hacc, by omega, e2, exs⟩
            · cases e2
          · cases e2
        · rename_i hdy
          cases e2
          rw [List.append_nil] at exs
          subst exs
          refine .inl ⟨g2 hdy, ?_⟩
          cases md with
          | N =>
            cases e
            obtain ⟨o1, o2⟩ := al_Q ok2 hH2 hF2 hm2 hacc
            refine k _ F2 (m2 ++ [D]) H2 ⟨st1.ex.trans st12.ex, ?_, fun b hb => ?_, fun b h1 h2 => (st1.trans st12).newF b h1 h2, (st1.trans st12).fr⟩ o1 o2
            · obtain ⟨t1, e1⟩ := (st1.trans st12).pre
              exact ⟨t1 ++ [D], by rw [e1, List.append_assoc]⟩
            · rcases List.mem_append.mp hb with r | r
              · exact (st1.trans st12).new b r
              · rw [List.mem_singleton.mp r]
                right
                cases q9 : H D with
                | none => rfl
                | some o =>
                  by_cases hmm : D ∈ m
                  · obtain ⟨t1, e1⟩ := st1.pre
                    exact absurd (by rw [e1]; exact List.mem_append_left _ hmm) hmD
                  · rw [st1.fr D o q9 hmm] at hD; cases hD
          | D =>
            have e' : (unD xs).map (fun ds => (Val.d (.list ds), _)) = some (res, S') := e
            cases q9 : unD xs with
            | none => rw [q9] at e'; cases e'
            | some zs =>
              rw [q9] at e'; cases e'
              have hp := unD_ok q9 hacc
              have o1 := al_P ok2 hH2 hF2 hm2
              have ex2 : Same F2 (upd F2 D (.lst ws)) := fun b o hb => by rw [upd_ne (ne_of_none hb hF2)]; exact hb
              have st13 := st1.trans st12
              refine k _ (upd F2 D (.lst ws)) m2 H2 ⟨st13.ex.trans ex2, st13.pre, st13.new, fun b h1 h2 => ?_, st13.fr⟩ o1 (rv_list.mpr ⟨D, ws, rfl, upd_same, pr_mono (fun x v => rp_mono ex2 x v) hp⟩)
              by_cases hbD : b = D
              · subst hbD
                right
                left
                cases q8 : H b with
                | none => rfl
                | some o =>
                  by_cases hmm : b ∈ m
                  · obtain ⟨t1, e1⟩ := st1.pre
                    exact absurd (by rw [e1]; exact List.mem_append_left _ hmm) hmD
                  · rw [st1.fr b o q8 hmm] at hD; cases hD
              · rw [upd_ne hbD] at h2
                exact st13.newF b h1 h2
        · cases e2
      · cases e
  · cases e
theorem rvM {F F' : Hp} {m m' : List Addr} (ex : Same F F') (pre : ∃ t, m' = m ++ t) {a : Val} {v : V} (h : RV K F m a v) : RV K F' m' a v := rv_keep ex pre h
/-- a pair of two things -/
def mkP : Val → Val → Val
  | .d x, .d y => .d (.tuple [x, y])
  | x, y => .t [x, y]
theorem rv_mkP {F : Hp} {m : List Addr} {x y : Val} {u w : V} {T : Addr} (hx : RV K F m x u) (hy : RV K F m y w) (hT : F T = some (.tup [u, w])) : RV K F m (mkP x y) (.ref T) := by
  unfold mkP
  split
  · exact rv_tuple.mpr ⟨T, _, rfl, hT, .cons (rv_d.mp hx) (.cons (rv_d.mp hy) .nil)⟩
  · exact rv_t.mpr ⟨T, _, rfl, hT, .cons hx (.cons hy .nil)⟩
theorem stp_same {F : Hp} {m : List Addr} {H : Hp} : Stp F m H F m H := Stp.refl
/-! ### the items of a list, as it stands at each turn -/
def dSeq (a : Val) : Dy := fun S i => (viewQ S a).map fun xs => xs[i]?
def jSq (f : Ef) : Jf := fun ρ S => match f ρ S with
  | some (a, S1) => if (viewQ S1 a).isSome = true then some (dSeq a, S1) else none
  | none => none
def isTu : Val → Bool
  | .d (.tuple _) => true
  | .t _ => true
  | _ => false
theorem viewQ_L {S : Sto} {a : Val} (h : isTu a = false) : viewQ S a = viewL S a := by
  cases a with
  | d x => cases x <;> first | rfl | cases h
  | c k => rfl
  | s ns => rfl
  | t xs => cases h
theorem view_at {F1 : Hp} {m1 : List Addr} {H1 : Hp} {S1 : Sto} {a : Val} {p : Addr} {xs : List Val} (ht : isTu a = false) (ok : SOk K F1 m1 H1 S1) (r : RV K F1 m1 a (.ref p)) (hv : viewQ S1 a = some xs) : ∃ ws, SqL K H1 p ws ∧ Paired (RV K F1 m1) xs ws := by
  rw [viewQ_L ht] at hv
  obtain ⟨p', ws, e, h1, h2⟩ := viewL_ok ok hv r
  cases e
  exact ⟨ws, h1, h2⟩
theorem itdy_list {F : Hp} {m : List Addr} {p : Addr} {a : Val} (ht : isTu a = false) (r : RV K F m a (.ref p)) : ItDy K (Itl K p) m F (dSeq a) := fun i F1 m1 H1 S1 ex pre ok => by
  have r1 := rvM ex pre r
  refine ⟨fun x hx => ?_, fun hx => ?_⟩
  · unfold dSeq at hx
    cases hv : viewQ S1 a with
    | none => rw [hv] at hx; cases hx
    | some xs =>
      rw [hv] at hx
      have hx : xs[i]? = some x := Option.some.inj hx
      obtain ⟨ws, h1, h2⟩ := view_at ht ok r1 hv
      obtain ⟨w, hw, rw'⟩ := pr_get h2 hx
      refine ⟨⟨ws, w, h1, hw⟩, fun v H2 hy => ?_⟩
      obtain ⟨rfl, hy⟩ := hy
      have := hy ws h1
      rw [hw] at this
      cases this
      exact ⟨F1, Stp.refl, ok, rw', fun _ _ h => h⟩
  · unfold dSeq at hx
    cases hv : viewQ S1 a with
    | none => rw [hv] at hx; cases hx
    | some xs =>
      rw [hv] at hx
      have hx : xs[i]? = none := Option.some.inj hx
      obtain ⟨ws, h1, h2⟩ := view_at ht ok r1 hv
      exact ⟨ws, h1, by rw [← pr_len h2]; exact List.getElem?_eq_none_iff.mp hx⟩
theorem itdy_tup {F : Hp} {m : List Addr} {p : Addr} {ds : List PyData} {vs : List V} (h : SqT K F p vs) (hv : Paired (Rp K F) ds vs) : ItDy K (Itt K p) m F (dSeq (.d (.tuple ds))) := fun i F1 m1 H1 S1 ex pre ok => by
  have hq : SqT K H1 p vs := same_q ok.ex (same_q ex h)
  have e : ∀ S : Sto, dSeq (.d (.tuple ds)) S i = some ((ds.map Val.d)[i]?) := fun S => rfl
  rw [e]
  refine ⟨fun x hx => ?_, fun hx => ?_⟩
  · have hx : (ds.map Val.d)[i]? = some x := Option.some.inj hx
    rw [List.getElem?_map] at hx
    cases q : ds[i]? with
    | none => rw [q] at hx; cases hx
    | some d =>
      rw [q] at hx
      cases hx
      obtain ⟨w, hw, rw'⟩ := pr_get hv q
      refine ⟨⟨vs, w, hq, hw⟩, fun v H2 hy => ?_⟩
      obtain ⟨rfl, hy⟩ := hy
      have := hy vs hq
      rw [hw] at this
      cases this
      exact ⟨F1, Stp.refl, ok, rp_mono ex d w rw', fun _ _ h => h⟩
  · have hx : (ds.map Val.d)[i]? = none := Option.some.inj hx
    rw [List.getElem?_eq_none_iff, List.length_map] at hx
    exact ⟨vs, hq, by rw [← pr_len hv]; exact hx⟩
theorem itdy_tupT {F : Hp} {m : List Addr} {p : Addr} {xs : List Val} {vs : List V} (h : SqT K F p vs) (hv : Paired (RV K F m) xs vs) : ItDy K (Itt K p) m F (dSeq (.t xs)) := fun i F1 m1 H1 S1 ex pre ok => by
  have hq : SqT K H1 p vs := same_q ok.ex (same_q ex h)
  have e : ∀ S : Sto, dSeq (.t xs) S i = some (xs[i]?) := fun S => rfl
  rw [e]
  refine ⟨fun x hx => ?_, fun hx => ?_⟩
  · have hx : xs[i]? = some x := Option.some.inj hx
    obtain ⟨w, hw, rw'⟩ := pr_get hv hx
    refine ⟨⟨vs, w, hq, hw⟩, fun v H2 hy => ?_⟩
    obtain ⟨rfl, hy⟩ := hy
    have := hy vs hq
    rw [hw] at this
    cases this
    exact ⟨F1, Stp.refl, ok, rvM ex pre rw', fun _ _ h => h⟩
  · have hx : xs[i]? = none := Option.some.inj hx
    rw [List.getElem?_eq_none_iff] at hx
    exact ⟨vs, hq, by rw [← pr_len hv]; exact hx⟩
theorem ej_seq {tg : Expr} (ha : EE X a fa) : EJ X tg a (jSq fa) := ej_of (pi_seq ha) fun F m H S ρ σ dy S' ok ro e R k => by
  unfold jSq at e
  split at e
  · rename_i o S1 q1
    split at e
    · rename_i hs
      cases e
      refine sndE ok ro q1 _ fun v F1 m1 H1 st1 ok1 r1 => ?_
      obtain ⟨xs, hs⟩ := Option.isSome_iff_exists.mp hs
      by_cases ht : isTu o = false
      · rw [viewQ_L ht] at hs
        obtain ⟨p, ws, rfl, h1, h2⟩ := viewL_ok ok1 hs r1
        exact ⟨p, rfl, .inl ⟨⟨ws, h1⟩, k _ _ _ _ st1 ok1 (itdy_list ht r1)⟩⟩
      · have : (∃ ds, o = .d (.tuple ds)) ∨ ∃ xs, o = .t xs := by
          cases o with
          | d x => cases x <;> first | exact .inl ⟨_, rfl⟩ | exact absurd rfl ht
          | c k => exact absurd rfl ht
          | s ns => exact absurd rfl ht
          | t xs => exact .inr ⟨_, rfl⟩
        rcases this with ⟨ds, rfl⟩ | ⟨ys, rfl⟩
        rotate_left
        · obtain ⟨p, vs, rfl, h1, h2⟩ := rv_t.mp r1
          exact ⟨p, rfl, .inr ⟨⟨vs, same_t ok1.ex h1⟩, k _ _ _ _ st1 ok1 (itdy_tupT (.of h1) h2)⟩⟩
        obtain ⟨p, vs, rfl, h1, h2⟩ := rp_tuple.mp r1
        exact ⟨p, rfl, .inr ⟨⟨vs, same_t ok1.ex h1⟩, k _ _ _ _ st1 ok1 (itdy_tup (.of h1) h2)⟩⟩
    · cases e
  · cases e
def dEn (a : Val) : Dy := fun S i => match viewQ S a with
  | some xs => match xs[i]? with
    | some x => some (some (mkP (.d (.int (i : Nat))) x))
    | none => some none
  | none => none
def jEn (fs : Af) : Jf := fun ρ S => match fs ρ S with
  | some ([a], S1) => if (viewQ S1 a).isSome = true ∧ isTu a = false then some (dEn a, S1) else none
  | _ => none
theorem itdy_enum {F : Hp} {m : List Addr} {p : Addr} {a : Val} (ht : isTu a = false) (r : RV K F m a (.ref p)) : ItDy K (Ite K p) m F (dEn a) := fun i F1 m1 H1 S1 ex pre ok => by
  have r1 := rvM ex pre r
  refine ⟨fun x hx => ?_, fun hx => ?_⟩
  · unfold dEn at hx
    split at hx
    · rename_i xs hv
      split at hx
      · rename_i d hd
        cases hx
        obtain ⟨ws, h1, h2⟩ := view_at ht ok r1 hv
        obtain ⟨w, hw, rw'⟩ := pr_get h2 hd
        refine ⟨⟨ws, w, h1, hw⟩, fun v H2 hy => ?_⟩
        obtain ⟨T, y, rfl, hT, rfl, hy⟩ := hy
        have := hy ws h1
        rw [hw] at this
        cases this
        obtain ⟨o1, o2⟩ := al_F (o := .tup [.int (i : Nat), w]) ok hT
        exact ⟨_, o2, o1, rv_mkP (rv_int.mpr rfl) (rv_mono o2 rw') upd_same, fun b o hb => by rw [upd_ne (ne_of_none hb hT)]; exact hb⟩
      · cases hx
    · cases hx
  · unfold dEn at hx
    split at hx
    · rename_i xs hv
      split at hx
      · cases hx
      · rename_i hd
        obtain ⟨ws, h1, h2⟩ := view_at ht ok r1 hv
        exact ⟨ws, h1, by rw [← pr_len h2]; exact List.getElem?_eq_none_iff.mp hd⟩
    · cases hx
theorem ej_enum {tpos p : Pos} {elts : List Expr} {kk : Nat} (hm : X.mg "enumerate" = none) (ha : EA X [a] fs) (hg : Gl X "enumerate" := by rfl) (hs : starEach [a] X.env = [(false, eval a X.env)] := by rfl) : EJ X (.Tuple elts kk tpos) (.Call (.Name "enumerate" p) [a] [] pos) (jEn fs) := ej_of (pi_enum hg hm ha hs) fun F m H S ρ σ dy S' ok ro e R k => by
  unfold jEn at e
  split at e
  · rename_i a S1 q
    split at e
    · rename_i hz
      cases e
      refine sndA ok ro q _ fun vs F1 m1 H1 st1 ok1 r1 => ?_
      cases r1 with
      | cons r t =>
        cases t
        obtain ⟨xs, hs⟩ := Option.isSome_iff_exists.mp hz.1
        rw [viewQ_L hz.2] at hs
        obtain ⟨p, ws, rfl, h1, h2⟩ := viewL_ok ok1 hs r
        exact ⟨p, ws, rfl, h1, k _ _ _ _ st1 ok1 (itdy_enum hz.2 r)⟩
    · cases e
  · cases e
def dZp (a b : Val) : Dy := fun S i => match viewQ S a, viewQ S b with
  | some xs, some ys => match xs[i]?, ys[i]? with
    | some x, some y => some (some (mkP x y))
    | none, _ => some none
    | some _, none => some none
  | _, _ => none
def jZ0 : List Val → Sto → Option (Dy × Sto)
  | [.d (.tuple ds), .d (.tuple es)], S1 => some ((fun _ i => some ((zipD ds es).map Val.d)[i]?), S1)
  | [.t xs, .d (.tuple es)], S1 => some ((fun _ i => some (List.zipWith mkP xs (es.map .d))[i]?), S1)
  | [a, b], S1 => if (viewQ S1 a).isSome = true ∧ isTu a = false ∧ (viewQ S1 b).isSome = true ∧ isTu b = false then some (dZp a b, S1) else none
  | _, _ => none
def jZp (fs : Af) : Jf := fun ρ S => bnd (fs ρ S) jZ0
theorem itdy_zipV {F : Hp} {m : List Addr} {p p' : Addr} {vs vs' : List V} {xs ys : List Val} (h : SqT K F p vs) (hv : Paired (RV K F m) xs vs) (h' : SqT K F p' vs') (hv' : Paired (RV K F m) ys vs') : ItDy K (RZ.ItzT K p p') m F (fun _ i => some (List.zipWith mkP xs ys)[i]?) := fun i F1 m1 H1 S1 ex pre ok => by
  have q1 : SqT K H1 p vs := same_q ok.ex (same_q ex h)
  have q2 : SqT K H1 p' vs' := same_q ok.ex (same_q ex h')
  refine ⟨fun x hx => ?_, fun hx => ?_⟩
  · have hx : (List.zipWith mkP xs ys)[i]? = some x := Option.some.inj hx
    rw [List.getElem?_zipWith] at hx
    cases e1 : xs[i]? with
    | none => rw [e1] at hx; cases hx
    | some d =>
      cases e2 : ys[i]? with
      | none => rw [e1, e2] at hx; cases hx
      | some d' =>
        rw [e1, e2] at hx
        cases hx
        obtain ⟨w, hw, rw'⟩ := pr_get hv e1
        obtain ⟨w', hw', rw''⟩ := pr_get hv' e2
        refine ⟨⟨vs, vs', w, w', q1, q2, hw, hw'⟩, fun v H2 hy => ?_⟩
        obtain ⟨T, y, y', rfl, hT, rfl, hy, hy'⟩ := hy
        have z1 := hy vs q1
        have z2 := hy' vs' q2
        rw [hw] at z1
        rw [hw'] at z2
        cases z1
        cases z2
        obtain ⟨o1, o2⟩ := al_F (o := .tup [w, w']) ok hT
        exact ⟨_, o2, o1, rv_mkP (rv_mono o2 (rvM ex pre rw')) (rv_mono o2 (rvM ex pre rw'')) upd_same, fun b o hb => by rw [upd_ne (ne_of_none hb hT)]; exact hb⟩
  · have hx : (List.zipWith mkP xs ys)[i]? = none := Option.some.inj hx
    rw [List.getElem?_eq_none_iff, List.length_zipWith] at hx
    exact ⟨vs, vs', q1, q2, by rw [← pr_len hv, ← pr_len hv']; omega⟩
theorem itdy_zip {F : Hp} {m : List Addr} {p p' : Addr} {a b : Val} (ht : isTu a = false) (r : RV K F m a (.ref p)) (ht' : isTu b = false) (r' : RV K F m b (.ref p')) : ItDy K (Itz K p p') m F (dZp a b) := fun i F1 m1 H1 S1 ex pre ok => by
  have r1 := rvM ex pre r
  have r2 := rvM ex pre r'
  refine ⟨fun x hx => ?_, fun hx => ?_⟩
  · unfold dZp at hx
    split at hx
    · rename_i xs ys hv hv'
      split at hx
      · rename_i d d' hd hd'
        cases hx
        obtain ⟨ws, h1, h2⟩ := view_at ht ok r1 hv
        obtain ⟨ws', h1', h2'⟩ := view_at ht' ok r2 hv'
        obtain ⟨w, hw, rw'⟩ := pr_get h2 hd
        obtain ⟨w', hw', rw''⟩ := pr_get h2' hd'
        refine ⟨⟨ws, ws', w, w', h1, h1', hw, hw'⟩, fun v H2 hy => ?_⟩
        obtain ⟨T, y, y', rfl, hT, rfl, hy, hy'⟩ := hy
        have q1 := hy ws h1
        have q2 := hy' ws' h1'
        rw [hw] at q1
        rw [hw'] at q2
        cases q1
        cases q2
        obtain ⟨o1, o2⟩ := al_F (o := .tup [w, w']) ok hT
        exact ⟨_, o2, o1, rv_mkP (rv_mono o2 rw') (rv_mono o2 rw'') upd_same, fun b o hb => by rw [upd_ne (ne_of_none hb hT)]; exact hb⟩
      · cases hx
      · cases hx
    · cases hx
  · unfold dZp at hx
    split at hx
    · rename_i xs ys hv hv'
      obtain ⟨ws, h1, h2⟩ := view_at ht ok r1 hv
      obtain ⟨ws', h1', h2'⟩ := view_at ht' ok r2 hv'
      split at hx
      · cases hx
      · rename_i hd
        exact ⟨ws, ws', h1, h1', .inl (by rw [← pr_len h2]; exact List.getElem?_eq_none_iff.mp hd)⟩
      · rename_i hd
        exact ⟨ws, ws', h1, h1', .inr (by rw [← pr_len h2']; exact List.getElem?_eq_none_iff.mp hd)⟩
    · cases hx
theorem itdy_zipT {F : Hp} {m : List Addr} {p p' : Addr} {vs vs' : List V} {ds ds' : List PyData} (h : SqT K F p vs) (hv : Paired (Rp K F) ds vs) (h' : SqT K F p' vs') (hv' : Paired (Rp K F) ds' vs') : ItDy K (RZ.ItzT K p p') m F (fun _ i => some ((zipD ds ds').map Val.d)[i]?) := fun i F1 m1 H1 S1 ex pre ok => by
  obtain ⟨g1, g2, g3⟩ := itok_zipT h hv h' hv' i F1 m1 H1 S1 ex ok
  refine ⟨fun x hx => ?_, fun hx => ?_⟩
  · have hx : ((zipD ds ds').map Val.d)[i]? = some x := Option.some.inj hx
    have hl := (List.getElem?_eq_some_iff.mp hx).1
    rw [List.length_map] at hl
    refine ⟨g1 hl, fun v H2 hy => ?_⟩
    obtain ⟨d, F2, e1, s1, o1, r1, k1⟩ := g3 v H2 hl hy
    rw [List.getElem?_map, e1] at hx
    cases hx
    exact ⟨F2, s1, o1, r1, k1⟩
  · have hx : ((zipD ds ds').map Val.d)[i]? = none := Option.some.inj hx
    rw [List.getElem?_eq_none_iff, List.length_map] at hx
    exact g2 hx
theorem ej_zip {tpos p : Pos} {elts : List Expr} {kk : Nat} (hm : X.mg "zip" = none) (ha : EA X [a, b] fs) (hg : Gl X "zip" := by rfl) (hs : starEach [a, b] X.env = (false, eval a X.env) :: starEach [b] X.env := by rfl) (hpl : (backTo pos (starEach [b] X.env)).any (·.1) = false := by rfl) : EJ X (.Tuple elts kk tpos) (.Call (.Name "zip" p) [a, b] [] pos) (jZp fs) := ej_of (RZ.pi_zipA hg hm ha hs hpl) fun F m H S ρ σ dy S' ok ro e R k => by
  obtain ⟨as, S1, q, e⟩ := bnd_inv e
  unfold jZ0 at e
  split at e
  · cases e
    refine sndA ok ro q _ fun vs F1 m1 H1 st1 ok1 r1 => ?_
    cases r1 with
    | cons r t =>
      cases t with
      | cons r2 t =>
        cases t
        obtain ⟨p, ws, rfl, h1, h2⟩ := rv_tuple.mp r
        obtain ⟨p', ws', rfl, h1', h2'⟩ := rv_tuple.mp r2
        exact ⟨p, p', ws, ws', rfl, .inr ⟨same_t ok1.ex h1, same_t ok1.ex h1', k _ _ _ _ st1 ok1 (itdy_zipT (.of h1) h2 (.of h1') h2')⟩⟩
  · cases e
    refine sndA ok ro q _ fun vs F1 m1 H1 st1 ok1 r1 => ?_
    cases r1 with
    | cons r t =>
      cases t with
      | cons r2 t =>
        cases t
        obtain ⟨p, ws, rfl, h1, h2⟩ := rv_t.mp r
        obtain ⟨p', ws', rfl, h1', h2'⟩ := rv_tuple.mp r2
        exact ⟨p, p', ws, ws', rfl, .inr ⟨same_t ok1.ex h1, same_t ok1.ex h1', k _ _ _ _ st1 ok1 (itdy_zipV (.of h1) h2 (.of h1') (rp_rvs h2'))⟩⟩
  · split at e
    · rename_i hz
      cases e
      refine sndA ok ro q _ fun vs F1 m1 H1 st1 ok1 r1 => ?_
      cases r1 with
      | cons r t =>
        cases t with
        | cons r2 t =>
          cases t
          obtain ⟨us, hu⟩ := Option.isSome_iff_exists.mp hz.1
          obtain ⟨us', hu'⟩ := Option.isSome_iff_exists.mp hz.2.2.1
          rw [viewQ_L hz.2.1] at hu
          rw [viewQ_L hz.2.2.2] at hu'
          obtain ⟨p, ws, rfl, h1, h2⟩ := viewL_ok ok1 hu r
          obtain ⟨p', ws', rfl, h1', h2'⟩ := viewL_ok ok1 hu' r2
          exact ⟨p, p', ws, ws', rfl, .inl ⟨h1, h1', k _ _ _ _ st1 ok1 (itdy_zip hz.2.1 r hz.2.2.2 r2)⟩⟩
    · cases e
  · cases e
section
variable {p p2 pos2 : Pos} {tg iter : Expr} {st : Stmt} {elt : Expr} {ifs : List Expr} {ft : Tf} {fe : Ef}
theorem ee_lcD (md : Md) (own : List (Str × Nat)) {scope : Scope} {fi : Jf} {tG' : TG} {fg : Gf} {ft : Tf} (hN : X.N.Nodup) (hi : EJ X tg iter fi) (ok : BlkOk X.N X.env.scope scope own)
    (hl : LcT X.K (own.map (·.2)) tG' fg) (hg : ∀ (s : Shared) (H : Hp) (C : Addr) (cl : List (Str × Addr)) (fp : List Addr), PG (X.blk s H scope (compEnvC scope cl C X.env) fp) tg tG')
    (ht : ∀ (s : Shared) (H : Hp) (C : Addr) (cl : List (Str × Addr)) (fp : List Addr), ETs (X.blk s H scope (compEnvC scope cl C X.env) fp) ifs ft)
    (he : ∀ (s : Shared) (H : Hp) (C : Addr) (cl : List (Str × Addr)) (fp : List Addr), EE (X.blk s H scope (compEnvC scope cl C X.env) fp) elt fe) (hc : X.calm = true := by rfl) (hs : ∀ x, foldedSetIterable iter X.env x = pure x := by intro _; rfl) :
    EE X (.ListComp elt [⟨tg, iter, ifs, 0⟩] scope pos) (eLcD md fi fg ft fe (own.map (·.2))) := ee_of (pe_lc (tt := tT X.K ft) (te := tE X.K fe) hc hN hi ok hg (fun s H C cl fp => ht s H C cl fp) (fun s H C cl fp => he s H C cl fp) hs) (snd_lcD hl)
theorem ss_setLcD (md : Md) (i : Nat) (own : List (Str × Nat)) {y : Str} {py spos : Pos} {scope : Scope} {fi : Jf} {tG' : TG} {fg : Gf} {ft : Tf} (hN : X.N.Nodup) (hi : EJ X tg iter fi) (ok : BlkOk X.N X.env.scope scope own)
    (hl : LcT X.K (own.map (·.2)) tG' fg) (hg : ∀ (s : Shared) (H : Hp) (C : Addr) (cl : List (Str × Addr)) (fp : List Addr), PG (X.blk s H scope (compEnvC scope cl C X.env) fp) tg tG')
    (ht : ∀ (s : Shared) (H : Hp) (C : Addr) (cl : List (Str × Addr)) (fp : List Addr), ETs (X.blk s H scope (compEnvC scope cl C X.env) fp) ifs ft)
    (he : ∀ (s : Shared) (H : Hp) (C : Addr) (cl : List (Str × Addr)) (fp : List Addr), EE (X.blk s H scope (compEnvC scope cl C X.env) fp) elt fe) (hc : X.calm = true := by rfl) (hy : X.N[i]? = some y := by rfl) (hyl : X.env.scope.names.lookup y = some .local := by rfl)
    (hsw : swapsWith (.ListComp elt [⟨tg, iter, ifs, 0⟩] scope pos) (some (.Name y py)) spos.line X.env = pure true := by exact sw_true rfl rfl rfl (by decide +kernel)) (hs : ∀ x, foldedSetIterable iter X.env x = pure x := by intro _; rfl) :
    SS X (.Assign [.Name y py] (.ListComp elt [⟨tg, iter, ifs, 0⟩] scope pos) spos) (sAsg (eLcD md fi fg ft fe (own.map (·.2))) (gN i)) := ss_of (ps_setLc (tt := tT X.K ft) (te := tE X.K fe) hc hN hy hyl hsw hi ok hg (fun s H C cl fp => ht s H C cl fp) (fun s H C cl fp => he s H C cl fp) hs) (snd_asg (snd_lcD hl) (sndN i))

end
/-! ### a, b = x, y with the tuple between: what is given may change -/
def sTu (fs : Af) (n : Nat) (g : Gs) : Sf := fun ρ S => match fs ρ S with
  | some (as, S1) => if as.length = n ∧ as.length ≤ sizeLine then match g as ρ S1 with
    | some (ρ2, S2) => some (.nx, ρ2, S2)
    | none => none
    else none
  | none => none
theorem ss_tu {ts es : List Expr} {kk x1 : Nat} {n : Nat} {g : Gs} {tpos vpos spos : Pos} (ha : EA X es fs) (hg : EGs X ts g) (hc : X.calm = true := by rfl) (hn : (assignEach ts X.env).length = n := by rfl) (hst : (assignEach ts X.env).findIdx? (·.1) = none := by rfl)
    (hs : swapsWithSole [.Tuple ts kk tpos] (.Tuple es x1 vpos) spos.line X.env = pure false := by rfl) (hw : swappedStores [.Tuple ts kk tpos] (.Tuple es x1 vpos) X.env = pure none := by rfl)
    (h1 : (assignEach [.Tuple ts kk tpos] X.env).map (·.2) = [assign (.Tuple ts kk tpos) X.env] := by rfl) : SS X (.Assign [.Tuple ts kk tpos] (.Tuple es x1 vpos) spos) (sTu fs n g) := by
  obtain ⟨t, q1, q2⟩ := hg
  refine ss_of (ps_asg (pe_tup ha) (pg_tup hc q1 hn hst) hs hw h1) fun F m H S ρ σ fl ρ' S' ok ro e D k => ?_
  unfold sTu at e
  split at e
  · rename_i as S1 e1
    split at e
    · rename_i hz
      split at e
      · rename_i ρ2 S2 e2
        cases e
        refine sndA ok ro e1 _ fun vs F1 m1 H1 st1 ok1 r1 => ⟨by rw [← pr_len r1]; exact hz.2, fun p hp => ?_⟩
        obtain ⟨hF, hm⟩ := ok1.none hp
        have st0 : Stp F1 m1 H1 F1 m1 (upd H1 p (.tup vs)) := ⟨Same.refl _, ⟨[], by simp⟩, fun _ h => .inl h, fun _ h h' => absurd h h', fun b o hb _ => by rw [upd_ne (ne_of_none hb hp)]; exact hb⟩
        exact ⟨p, vs, rfl, .of upd_same, by rw [← pr_len r1]; exact hz.1, q2 (al_O ok1 hF hm) (ro_mono st1 ro) r1 e2 _ fun σ' F' m' H' s2 => k σ' F' m' H' ((st1.trans st0).trans s2)⟩
      · cases e
    · cases e
  · cases e
end
end QL

namespace QL
open PySem PySem.Spec PyProof.Rows L2
/-! ### dicts: keys, what a dict holds -/
def keyD : PyData → Option L2.Key
  | .int i => some (.inl i)
  | .str s => some (.inr s)
  | _ => none
def keyT : PyData → Option (List L2.Key)
  | .tuple ds => mapO keyD ds
  | _ => none
def unK : L2.Key → PyData
  | .inl i => .int i
  | .inr s => .str s
section
variable {κ : Type} [DecidableEq κ]
def lkQ (kvs : List (κ × Val)) (k : κ) : Option Val := (kvs.find? fun p => decide (p.1 = k)).map (·.2)
def putQ (kvs : List (κ × Val)) (k : κ) (v : Val) : List (κ × Val) := if (kvs.any fun p => decide (p.1 = k)) = true then kvs.map (fun p => if p.1 = k then (p.1, v) else p) else kvs ++ [(k, v)]
def mrgQ (kvs more : List (κ × Val)) : List (κ × Val) := more.foldl (fun acc p => putQ acc p.1 p.2) kvs
variable {K : PySem.W.Frag} {F : Hp} {m : List Addr}
theorem lkQ_ok {kvs : List (κ × Val)} {ks : List (κ × V)} (h : Paired (PV K F m) kvs ks) (k : κ) : (∀ a, lkQ kvs k = some a → ∃ v, valV ks k = some v ∧ RV K F m a v) ∧ (lkQ kvs k = none → valV ks k = none) := by
  induction h with
  | nil => exact ⟨fun a e => (by cases e), fun _ => rfl⟩
  | @cons p q ps qs r t ih =>
    by_cases e : p.1 = k
    · have e2 : q.1 = k := r.1.symm.trans e
      have h1 : lkQ (p :: ps) k = some p.2 := by unfold lkQ; rw [List.find?_cons, decide_eq_true e]; rfl
      rw [h1, valV_pos e2]
      exact ⟨fun a ea => (by cases ea; exact ⟨_, rfl, r.2⟩), fun z => (by cases z)⟩
    · have e2 : ¬ q.1 = k := fun z => e (r.1.trans z)
      have h1 : lkQ (p :: ps) k = lkQ ps k := by unfold lkQ; rw [List.find?_cons, decide_eq_false e]
      rw [h1, valV_neg e2]
      exact ih
theorem anyQ_ok {kvs : List (κ × Val)} {ks : List (κ × V)} (h : Paired (PV K F m) kvs ks) (k : κ) : (kvs.any fun p => decide (p.1 = k)) = (ks.any fun p => decide (p.1 = k)) := by
  induction h with
  | nil => rfl
  | cons r t ih => rw [List.any_cons, List.any_cons, ih, r.1]
theorem repQ_ok {kvs : List (κ × Val)} {ks : List (κ × V)} (h : Paired (PV K F m) kvs ks) (k : κ) {x : Val} {v : V} (r : RV K F m x v) : Paired (PV K F m) (kvs.map (fun p => if p.1 = k then (p.1, x) else p)) (ks.map (fun kv => if kv.1 = k then (kv.1, v) else kv)) := by
  induction h with
  | nil => exact .nil
  | @cons p q ps qs r1 t ih =>
    refine .cons ?_ ih
    show PV K F m (if p.1 = k then (p.1, x) else p) (if q.1 = k then (q.1, v) else q)
    by_cases e : p.1 = k
    · rw [if_pos e, if_pos (r1.1.symm.trans e)]
      exact ⟨r1.1, r⟩
    · rw [if_neg e, if_neg (fun z => e (r1.1.trans z))]
      exact r1
theorem putQ_ok {kvs : List (κ × Val)} {ks : List (κ × V)} (h : Paired (PV K F m) kvs ks) (k : κ) {x : Val} {v : V} (r : RV K F m x v) : Paired (PV K F m) (putQ kvs k x) (putK ks k v) := by
  unfold putQ putK
  rw [anyQ_ok h k]
  split
  · exact repQ_ok h k r
  · exact pr_append h (.cons ⟨rfl, r⟩ .nil)
theorem mrgQ_ok {more : List (L2.Key × Val)} {ms : List (L2.Key × V)} (h : Paired (PV K F m) more ms) : ∀ {kvs : List (L2.Key × Val)} {ks : List (L2.Key × V)}, Paired (PV K F m) kvs ks → Paired (PV K F m) (mrgQ kvs more) (mergeK ks ms) := by
  induction h with
  | nil => exact fun h => h
  | @cons p q ps qs r t ih =>
    intro kvs ks h
    show Paired _ (mrgQ (putQ kvs p.1 p.2) ps) (mergeK (putK ks q.1 q.2) qs)
    rw [← r.1]
    exact ih (putQ_ok h p.1 r.2)
end
section
variable {K : PySem.W.Frag} {F F' H H' : Hp} {m : List Addr} {S : Sto}
theorem rp_key {x : PyData} {v : V} {k : L2.Key} (h : Rp K F x v) (e : keyD x = some k) : v = kV k := by
  cases x with
  | int i => cases e; exact rp_int.mp h
  | str i => cases e; exact rp_str.mp h
  | _ => cases e
theorem rp_unK (k : L2.Key) : Rp K F (unK k) (kV k) := by
  cases k with
  | inl i => exact rp_int.mpr rfl
  | inr s => exact rp_str.mpr rfl
theorem rp_keys : ∀ {ds : List PyData} {vs : List V} {ks : List L2.Key}, Paired (Rp K F) ds vs → mapO keyD ds = some ks → vs = ks.map kV
  | [], _, ks, .nil, e => by cases e; rfl
  | d :: ds, _, ks, .cons r t, e => by
    have e' : ((keyD d).bind fun b => (mapO keyD ds).map (b :: ·)) = some ks := e
    cases e1 : keyD d with
    | none => rw [e1] at e'; cases e'
    | some k =>
      cases e2 : mapO keyD ds with
      | none => rw [e1, e2] at e'; cases e'
      | some ks' =>
        rw [e1, e2] at e'
        cases e'
        rw [rp_key r e1, rp_keys t e2]
        rfl
theorem rp_keyT {x : PyData} {v : V} {ks : List L2.Key} (h : Rp K F x v) (e : keyT x = some ks) : ∃ b, v = .ref b ∧ F b = some (.tup (ks.map kV)) := by
  cases x with
  | tuple ds =>
    obtain ⟨a, vs, rfl, h1, h2⟩ := rp_tuple.mp h
    rw [rp_keys h2 e] at h1
    exact ⟨a, rfl, h1⟩
  | _ => cases e
/-- what a dict holds at a key -/
def dLk (S : Sto) : Val → Val → Option (Option Val)
  | .c i, .d x => match S[i]? with
    | some (.dk kvs) => (keyD x).map fun k => lkQ kvs k
    | some (.dt kvs) => (keyT x).map fun k => lkQ kvs k
    | some (.fk kvs) => (keyD x).map fun k => lkQ kvs k
    | some (.ft kvs) => (keyT x).map fun k => lkQ kvs k
    | _ => none
  | _, _ => none
theorem dLk_ok (ok : SOk K F m H S) {a k : Val} {v u : V} {r : Option Val} (ra : RV K F m a v) (rk : RV K F m k u) (h : dLk S a k = some r) :
    ∃ p o, v = .ref p ∧ DGet H p u o ∧ (∀ x, r = some x → ∃ w, o = some w ∧ RV K F m x w) ∧ (r = none → o = none) := by
  unfold dLk at h
  split at h
  · rename_i i x
    obtain ⟨p, hm, rfl⟩ := ra
    split at h
    · rename_i kvs hS
      obtain ⟨hF, ks, hH, hp⟩ := ok.cell _ _ _ hm hS
      cases e : keyD x with
      | none => rw [e] at h; cases h
      | some k =>
        rw [e] at h
        cases h
        have := rp_key (F := F) rk e
        subst this
        exact ⟨p, _, rfl, .k hH, (lkQ_ok hp k).1, (lkQ_ok hp k).2⟩
    · rename_i kvs hS
      obtain ⟨hF, ks, hH, hp⟩ := ok.cell _ _ _ hm hS
      cases e : keyT x with
      | none => rw [e] at h; cases h
      | some k =>
        rw [e] at h
        cases h
        obtain ⟨b, rfl, hb⟩ := rp_keyT (F := F) rk e
        exact ⟨p, _, rfl, .t hH (ok.ex _ _ hb), (lkQ_ok hp k).1, (lkQ_ok hp k).2⟩
    · rename_i kvs hS
      obtain ⟨o, ks, hH, hp⟩ := ok.cell _ _ _ hm hS
      cases e : keyD x with
      | none => rw [e] at h; cases h
      | some k =>
        rw [e] at h
        cases h
        have := rp_key (F := F) rk e
        subst this
        exact ⟨p, _, rfl, .inl ⟨ks, k, .inr ⟨o, ok.ex _ _ hH⟩, rfl, rfl⟩, (lkQ_ok hp k).1, (lkQ_ok hp k).2⟩
    · rename_i kvs hS
      obtain ⟨o, ks, hH, hp⟩ := ok.cell _ _ _ hm hS
      cases e : keyT x with
      | none => rw [e] at h; cases h
      | some k =>
        rw [e] at h
        cases h
        obtain ⟨b, rfl, hb⟩ := rp_keyT (F := F) rk e
        exact ⟨p, _, rfl, .inr ⟨ks, k, b, .inr ⟨o, ok.ex _ _ hH⟩, rfl, ok.ex _ _ hb, rfl⟩, (lkQ_ok hp k).1, (lkQ_ok hp k).2⟩
    · cases h
  · cases h
/-- a dict with one entry stored -/
def dPt (S : Sto) : Val → Val → Val → Option Sto
  | .c i, .d x, v => match S[i]? with
    | some (.dk kvs) => if kvs.length < 16777216 then (keyD x).map fun k => S.set i (.dk (putQ kvs k v)) else none
    | some (.dt kvs) => if kvs.length < 16777216 then (keyT x).map fun k => S.set i (.dt (putQ kvs k v)) else none
    | _ => none
  | _, _, _ => none
theorem dPt_ok (ok : SOk K F m H S) {a k x : Val} {v u w : V} {S' : Sto} (ra : RV K F m a v) (rk : RV K F m k u) (rx : RV K F m x w) (h : dPt S a k x = some S') :
    ∃ p H', v = .ref p ∧ DPut H p u w H' ∧ SOk K F m H' S' ∧ Stp F m H F m H' := by
  unfold dPt at h
  split at h
  · rename_i i y
    obtain ⟨p, hm, rfl⟩ := ra
    split at h
    · rename_i kvs hS
      obtain ⟨hF, ks, hH, hp⟩ := ok.cell _ _ _ hm hS
      split at h
      · rename_i hz
        cases e : keyD y with
        | none => rw [e] at h; cases h
        | some k =>
          rw [e] at h
          cases h
          have := rp_key (F := F) rk e
          subst this
          obtain ⟨o1, s1⟩ := al_MC ok hm hS hF (c := .dk (putQ kvs k x)) (o := .dK (putK ks k w)) ⟨hF, _, upd_same, putQ_ok hp k rx⟩
          exact ⟨p, _, rfl, .k hH (by rw [← pr_len hp, sizeLine_eq]; exact hz), o1, s1⟩
      · cases h
    · rename_i kvs hS
      obtain ⟨hF, ks, hH, hp⟩ := ok.cell _ _ _ hm hS
      split at h
      · rename_i hz
        cases e : keyT y with
        | none => rw [e] at h; cases h
        | some k =>
          rw [e] at h
          cases h
          obtain ⟨b, rfl, hb⟩ := rp_keyT (F := F) rk e
          obtain ⟨o1, s1⟩ := al_MC ok hm hS hF (c := .dt (putQ kvs k x)) (o := .dT (putK ks k w)) ⟨hF, _, upd_same, putQ_ok hp k rx⟩
          exact ⟨p, _, rfl, .t hH (ok.ex _ _ hb) (by rw [← pr_len hp, sizeLine_eq]; exact hz), o1, s1⟩
      · cases h
    · cases h
  · cases h
def isDc (S : Sto) : Val → Bool
  | .c i => match S[i]? with
    | some (.dk _) => true
    | some (.dt _) => true
    | some (.fk _) => true
    | some (.ft _) => true
    | _ => false
  | _ => false
theorem isDc_ok (ok : SOk K F m H S) {a : Val} {v : V} (ra : RV K F m a v) (h : isDc S a = true) : ∃ p, v = .ref p ∧ L2.IsD H p := by
  unfold isDc at h
  split at h
  · obtain ⟨p, hm, rfl⟩ := ra
    split at h
    · rename_i kvs hS
      obtain ⟨hF, ks, hH, hp⟩ := ok.cell _ _ _ hm hS
      exact ⟨p, rfl, .inl ⟨ks, .inl hH⟩⟩
    · rename_i kvs hS
      obtain ⟨hF, ks, hH, hp⟩ := ok.cell _ _ _ hm hS
      exact ⟨p, rfl, .inr ⟨ks, .inl hH⟩⟩
    · rename_i kvs hS
      obtain ⟨o, ks, hH, hp⟩ := ok.cell _ _ _ hm hS
      exact ⟨p, rfl, .inl ⟨ks, .inr ⟨o, ok.ex _ _ hH⟩⟩⟩
    · rename_i kvs hS
      obtain ⟨o, ks, hH, hp⟩ := ok.cell _ _ _ hm hS
      exact ⟨p, rfl, .inr ⟨ks, .inr ⟨o, ok.ex _ _ hH⟩⟩⟩
    · cases h
  · cases h
end
section
variable {X : Cx} {K : PySem.W.Frag} {a b c e : Expr} {es : List Expr} {pos p apos : Pos} {fa fb fc : Ef} {fs : Af}
/-! {}, d[k], k in d, d.get(k, x), d[k] = v -/
def eDK : Ef := fun _ S => some (.c S.length, S ++ [.dk []])
def eDT : Ef := fun _ S => some (.c S.length, S ++ [.dt []])
theorem ee_dk : EE X (.Dict [] [] pos) eDK := ee_of pe_dnewK fun F m H S ρ σ res S' ok ro e Q k p hp => by
  cases e
  obtain ⟨o1, s1, r1⟩ := al_NC ok (c := .dk []) (o := .dK []) hp fun hF _ => ⟨hF, _, upd_same, .nil⟩
  exact k _ _ _ _ s1 o1 r1
theorem ee_dt : EE X (.Dict [] [] pos) eDT := ee_of pe_dnewT fun F m H S ρ σ res S' ok ro e Q k p hp => by
  cases e
  obtain ⟨o1, s1, r1⟩ := al_NC ok (c := .dt []) (o := .dT []) hp fun hF _ => ⟨hF, _, upd_same, .nil⟩
  exact k _ _ _ _ s1 o1 r1
def gDg (o k : Val) (S : Sto) : Option (Val × Sto) := match dLk S o k with
  | some (some x) => some (x, S)
  | _ => none
theorem hu1 {A : Around} {k : Nat} (hr : RoomG k A) : A.units + 1 < cLine := by have := hr.room.un; omega
theorem ee_dg {k : Nat} (hr : RoomG k X.A) (ha : EE X a fa) (hb : EE X b fb) (hs : L2.NoSl b := by exact fun _ _ => rfl) : EE X (.Subscript a b pos) (eBin gDg fa fb) := ee_of (pe_dget (hu1 hr) ha hb hs) fun F m H S ρ σ res S' ok ro e Q k => by
  obtain ⟨o, S1, e1, e⟩ := bnd_inv e
  obtain ⟨y, S2, e2, e⟩ := bnd_inv e
  refine sndE ok ro e1 _ fun v F1 m1 H1 st1 ok1 r1 => ?_
  refine sndE ok1 (ro_mono st1 ro) e2 _ fun u F2 m2 H2 st2 ok2 r2 => ?_
  unfold gDg at e
  split at e
  · rename_i x q
    cases e
    obtain ⟨p, w, rfl, g, h1, _⟩ := dLk_ok ok2 (rv_mono st2 r1) r2 q
    obtain ⟨w, rfl, rw⟩ := h1 _ rfl
    exact ⟨p, w, rfl, g, ((k.on st1).on st2).here ok2 rw⟩
  · cases e
def gDin (neg : Bool) (k o : Val) (S : Sto) : Option (Val × Sto) := match dLk S o k with
  | some r => some (.d (.bool (xor neg r.isSome)), S)
  | none => none
theorem snd_din : SndE K (tDIn (tE K fa) (tE K fb)) (eBin (gDin false) fa fb) := fun F m H S ρ σ res S' ok ro e Q k => by
  obtain ⟨y, S1, e1, e⟩ := bnd_inv e
  obtain ⟨o, S2, e2, e⟩ := bnd_inv e
  refine sndE ok ro e1 _ fun v F1 m1 H1 st1 ok1 r1 => ?_
  refine sndE ok1 (ro_mono st1 ro) e2 _ fun u F2 m2 H2 st2 ok2 r2 => ?_
  unfold gDin at e
  split at e
  · rename_i x q
    cases e
    obtain ⟨p, w, rfl, g, h1, h2⟩ := dLk_ok ok2 r2 (rv_mono st2 r1) q
    refine ⟨p, w, rfl, g, ((k.on st1).on st2).here ok2 (rv_bool.mpr ?_)⟩
    rw [Bool.false_xor]
    cases x with
    | none => rw [h2 rfl]; rfl
    | some x => obtain ⟨w, rfl, _⟩ := h1 x rfl; rfl
  · cases e
theorem snd_dnin : SndE K (tDNotIn (tE K fa) (tE K fb)) (eBin (gDin true) fa fb) := fun F m H S ρ σ res S' ok ro e Q k => by
  obtain ⟨y, S1, e1, e⟩ := bnd_inv e
  obtain ⟨o, S2, e2, e⟩ := bnd_inv e
  refine sndE ok ro e1 _ fun v F1 m1 H1 st1 ok1 r1 => ?_
  refine sndE ok1 (ro_mono st1 ro) e2 _ fun u F2 m2 H2 st2 ok2 r2 => ?_
  unfold gDin at e
  split at e
  · rename_i x q
    cases e
    obtain ⟨p, w, rfl, g, h1, h2⟩ := dLk_ok ok2 r2 (rv_mono st2 r1) q
    refine ⟨p, w, rfl, g, ((k.on st1).on st2).here ok2 (rv_bool.mpr ?_)⟩
    rw [Bool.true_xor]
    cases x with
    | none => rw [h2 rfl]; rfl
    | some x => obtain ⟨w, rfl, _⟩ := h1 x rfl; rfl
  · cases e
theorem ee_din {k : Nat} (hr : RoomG k X.A) (ha : EE X a fa) (hb : EE X b fb) (hm : behindInMarks .In b = false := by first | exact nomark _ | rfl) : EE X (.Compare a [.In] [b] pos) (eBin (gDin false) fa fb) := ee_of (pe_cmp (pc_din (hu1 hr) ha hb) hm) snd_din
theorem ee_dnin {k : Nat} (hr : RoomG k X.A) (ha : EE X a fa) (hb : EE X b fb) (hm : behindInMarks .NotIn b = false := by first | exact nomark _ | rfl) : EE X (.Compare a [.NotIn] [b] pos) (eBin (gDin true) fa fb) := ee_of (pe_cmp (pc_dnotin (hu1 hr) ha hb) hm) snd_dnin
theorem et_din {k : Nat} (hr : RoomG k X.A) (ha : EE X a fa) (hb : EE X b fb) (hm : behindInMarks .In b = false := by first | exact nomark _ | rfl) : ET X (.Compare a [.In] [b] pos) (tst (eBin (gDin false) fa fb)) := et_of (pt_cmp (pc_din (hu1 hr) ha hb) hm) (snd_tst snd_din)
theorem et_dnin {k : Nat} (hr : RoomG k X.A) (ha : EE X a fa) (hb : EE X b fb) (hm : behindInMarks .NotIn b = false := by first | exact nomark _ | rfl) : ET X (.Compare a [.NotIn] [b] pos) (tst (eBin (gDin true) fa fb)) := et_of (pt_cmp (pc_dnotin (hu1 hr) ha hb) hm) (snd_tst snd_dnin)
def eDgt (fo fk fx : Ef) : Ef := fun ρ S => bnd (fo ρ S) fun o S1 => if isDc S1 o = true then bnd (fk ρ S1) fun k S2 => bnd (fx ρ S2) fun x S3 => match dLk S3 o k with
  | some (some y) => some (y, S3)
  | some none => some (x, S3)
  | none => none
  else none
theorem ee_dgt {k : Nat} {apos cpos : Pos} (hr : RoomG k X.A) (ha : EE X a fa) (hb : EE X b fb) (hc : EE X c fc) (m1 : attributeBase a "get" X.env (eval a X.env) = eval a X.env := by rfl)
    (m2 : ((backTo cpos (starEach [b, c] X.env)).all (fun x => !x.1) && (backToKw cpos (keywordEach [] X.env)).all (fun x => x.1.isSome)
    && decide (([b, c] : List Expr).length + ([] : List Keyword).length + (if ([] : List Keyword).isEmpty then 0 else 1) < 30)) = true := by rfl) (m3 : (apos.endLine == cpos.line) = true := by rfl)
    (m4 : backTo cpos (starEach [b, c] X.env) = [(false, eval b X.env), (false, eval c X.env)] := by rfl) : EE X (.Call (.Attribute a "get" apos) [b, c] [] cpos) (eDgt fa fb fc) := ee_of (pe_dget2 (hu1 hr) ha hb hc ⟨m1, m2, m3, m4⟩) fun F m H S ρ σ res S' ok ro e Q k => by
  obtain ⟨o, S1, e1, e⟩ := bnd_inv e
  split at e
  · rename_i hd
    obtain ⟨y, S2, e2, e⟩ := bnd_inv e
    obtain ⟨x, S3, e3, e⟩ := bnd_inv e
    refine sndE ok ro e1 _ fun v F1 m1 H1 st1 ok1 r1 => ?_
    obtain ⟨p, rfl, hD⟩ := isDc_ok ok1 r1 hd
    refine ⟨p, rfl, hD, ?_⟩
    refine sndE ok1 (ro_mono st1 ro) e2 _ fun u F2 m2 H2 st2 ok2 r2 => ?_
    refine sndE ok2 (ro_mono st2 (ro_mono st1 ro)) e3 _ fun w F3 m3 H3 st3 ok3 r3 => ?_
    have kk := ((k.on st1).on st2).on st3
    split at e
    · rename_i z q
      cases e
      obtain ⟨p', w', e4, g, h1, _⟩ := dLk_ok ok3 (rv_mono st3 (rv_mono st2 r1)) (rv_mono st3 r2) q
      cases e4
      obtain ⟨w', rfl, rw⟩ := h1 _ rfl
      exact ⟨_, g, kk.here ok3 rw⟩
    · rename_i q
      cases e
      obtain ⟨p', w', e4, g, _, h2⟩ := dLk_ok ok3 (rv_mono st3 (rv_mono st2 r1)) (rv_mono st3 r2) q
      cases e4
      rw [h2 rfl] at g
      exact ⟨_, g, kk.here ok3 r3⟩
    · cases e
  · cases e
def sDp (fo fk fx : Ef) : Sf := fun ρ S => match fx ρ S with
  | some (x, S1) => match fo ρ S1 with
    | some (o, S2) => match fk ρ S2 with
      | some (k, S3) => match dPt S3 o k x with
        | some S4 => some (.nx, ρ, S4)
        | none => none
      | none => none
    | none => none
  | none => none
theorem ss_dp {k : Nat} {tpos : Pos} (hr : RoomG k X.A) (ha : EE X a fa) (hb : EE X b fb) (hc : EE X c fc) (hs : swapsWith c (some (.Subscript a b tpos)) pos.line X.env = pure false := by rfl) : SS X (.Assign [.Subscript a b tpos] c pos) (sDp fa fb fc) :=
  ss_of (ps_dput (hu1 hr) ha hb hc hs) fun F m H S ρ σ fl ρ' S' ok ro e D k => by
  unfold sDp at e
  split at e
  · rename_i x S1 e1
    split at e
    · rename_i o S2 e2
      split at e
      · rename_i y S3 e3
        split at e
        · rename_i S4 e4
          cases e
          refine sndE ok ro e1 _ fun v F1 m1 H1 st1 ok1 r1 => ?_
          refine sndE ok1 (ro_mono st1 ro) e2 _ fun u F2 m2 H2 st2 ok2 r2 => ?_
          refine sndE ok2 (ro_mono st2 (ro_mono st1 ro)) e3 _ fun w F3 m3 H3 st3 ok3 r3 => ?_
          obtain ⟨p, H4, rfl, g, ok4, st4⟩ := dPt_ok ok3 (rv_mono st3 r2) r3 (rv_mono st3 (rv_mono st2 r1)) e4
          exact ⟨p, H4, rfl, g, k _ _ _ _ (((st1.trans st2).trans st3).trans st4) ok4 (ro_mono st4 (ro_mono st3 (ro_mono st2 (ro_mono st1 ro))))⟩
        · cases e
      · cases e
    · cases e
  · cases e
/-! len, list(..) of a dict -/
def gLenD : List Val → Sto → Option (Val × Sto)
  | [.c i], S => match S[i]? with
    | some (.dk kvs) => some (.d (.int kvs.length), S)
    | _ => none
  | _, _ => none
def gLenDT : List Val → Sto → Option (Val × Sto)
  | [.c i], S => match S[i]? with
    | some (.dt kvs) => some (.d (.int kvs.length), S)
    | _ => none
  | _, _ => none
theorem cg_lenD : CallG X (.builtin "len") gLenD := ⟨_, call_lenD, fun F m H S as vs res S' ok rs e Q k => by
  unfold gLenD at e
  split at e
  · split at e
    · rename_i kvs hS
      cases e
      cases rs with
      | cons r1 t =>
        cases t
        obtain ⟨p, hm, rfl⟩ := r1
        obtain ⟨hF, ks, hH, hp⟩ := ok.cell _ _ _ hm hS
        exact ⟨p, ks, rfl, hH, k.here ok (rv_int.mpr (by rw [pr_len hp]))⟩
    · cases e
  · cases e⟩
theorem cg_lenDT : CallG X (.builtin "len") gLenDT := ⟨_, call_len_dT, fun F m H S as vs res S' ok rs e Q k => by
  unfold gLenDT at e
  split at e
  · split at e
    · rename_i kvs hS
      cases e
      cases rs with
      | cons r1 t =>
        cases t
        obtain ⟨p, hm, rfl⟩ := r1
        obtain ⟨hF, ks, hH, hp⟩ := ok.cell _ _ _ hm hS
        exact ⟨p, ks, rfl, hH, k.here ok (rv_int.mpr (by rw [pr_len hp]))⟩
    · cases e
  · cases e⟩
def gLenA := altC gLen (altC gLenD gLenDT)
theorem cg_lenA : CallG X (.builtin "len") gLenA := cg_len.or (cg_lenD.or cg_lenDT)
def gListD (md : Md) : List Val → Sto → Option (Val × Sto)
  | [.c i], S => match S[i]? with
    | some (.dk kvs) => alloc md (kvs.map fun p => .d (unK p.1)) S
    | _ => none
  | _, _ => none
theorem keys_rv {F : Hp} {m : List Addr} {kvs : List (L2.Key × Val)} {ks : List (L2.Key × V)} (h : Paired (PV K F m) kvs ks) : Paired (RV K F m) (kvs.map fun p => .d (unK p.1)) (ks.map fun q => kV q.1) := by
  induction h with
  | nil => exact .nil
  | @cons p q ps qs r t ih =>
    refine .cons ?_ ih
    show Rp K F (unK p.1) (kV q.1)
    rw [← r.1]
    exact rp_unK _
theorem cg_listD (md : Md) (hc : X.calm = true := by rfl) : CallG X (.type "list") (gListD md) := ⟨_, call_listD hc, fun F m H S as vs res S' ok rs e Q k => by
  unfold gListD at e
  split at e
  · split at e
    · rename_i kvs hS
      cases rs with
      | cons r1 t =>
        cases t
        obtain ⟨p, hm, rfl⟩ := r1
        obtain ⟨hF, ks, hH, hp⟩ := ok.cell _ _ _ hm hS
        exact ⟨p, ks, rfl, .inl hH, fun q hq => alloc_ok ok (keys_rv hp) e k hq⟩
    · cases e
  · cases e⟩
def gListA (md : Md) := altC (gList md) (gListD md)
theorem cg_listA (md : Md) (hc : X.calm = true := by rfl) : CallG X (.type "list") (gListA md) := (cg_list md).or (cg_listD md hc)
/-! d.update(d2) -/
def rUpd : V → List V → Hp → VK → Prop := fun x xs H Q => ∃ (a b : Addr) (kvs more : List (L2.Key × V)), x = .ref a ∧ xs = [.ref b] ∧ a ≠ b ∧ H a = some (.dK kvs) ∧ H b = some (.dK more) ∧ kvs.length + more.length ≤ sizeLine ∧ Q .non (upd H a (.dK (mergeK kvs more)))
theorem mt_upd : MtR X "dict.update" rUpd := by
  intro pins s σ H x xs v us Q I rx rxs h
  obtain ⟨a, b, kvs, more, rfl, rfl, hab, hA, hB, hz, q⟩ := h
  cases rx
  obtain ⟨u, rfl, ru⟩ := rxs.one
  cases ru
  obtain ⟨z, hd, vs, rel, dd⟩ := dk_of I.hok hA
  obtain ⟨z2, hd2, vs2, rel2, dd2⟩ := dk_of I.hok hB
  refine call_meetsIn PySem.F.slot_dict_update dd.typeIs PySem.F.entry_dict_update (PySem.F.args_dict_update_2 _ _) (meets_dict_update (mixKind X.prog X.w) a b hab hd2) ⟨vs, vs2, dd, dd2, by rw [← rel.length, ← rel2.length]; exact hz, fun h' dd' _ hs => ?_⟩
  have he : ∃ q, h'.get? a = some q := let ⟨q, _, _, hq, _⟩ := dd'; ⟨q, hq⟩
  exact ⟨.non, _, d_write (t' := s.toks) I (by rw [hA]; exact True.intro) hs he (dk_new (Nat.le_trans (length_mergeK more kvs) hz) hd (KV.merge rel2 rel) dd'), rfl, q⟩
def gUpd (o : Val) (as : List Val) (S : Sto) : Option (Val × Sto) := match o, as with
  | .c i, [.c j] => if i ≠ j then match S[i]?, S[j]? with
    | some (.dk kvs), some (.dk more) => if kvs.length + more.length ≤ 16777216 then some (.d .none, S.set i (.dk (mrgQ kvs more))) else none
    | _, _ => none
    else none
  | _, _ => none
def eMd (g : Val → List Val → Sto → Option (Val × Sto)) (fo : Ef) (fs : Af) : Ef := fun ρ S => bnd (fo ρ S) fun o S1 => match o with
  | .c i => match S1[i]? with
    | some (.dk _) => bnd (fs ρ S1) fun as S2 => g o as S2
    | _ => none
  | _ => none
theorem rm_upd : RM K rUpd gUpd := fun F m H S a as v vs res S' ok ra rs e Q k => by
  unfold gUpd at e
  split at e
  · rename_i i j
    split at e
    · rename_i hij
      split at e
      · rename_i kvs more h1 h2
        split at e
        · rename_i hz
          cases e
          obtain ⟨p, hm, rfl⟩ := ra
          obtain ⟨hF, ks, hH, hp⟩ := ok.cell _ _ _ hm h1
          cases rs with
          | cons r1 t =>
            cases t
            obtain ⟨p2, hm2, rfl⟩ := r1
            obtain ⟨hF2, ks2, hH2, hp2⟩ := ok.cell _ _ _ hm2 h2
            have hne : p ≠ p2 := fun e => by
              subst e
              exact hij (nd_ix ok.nd hm hm2)
            obtain ⟨o1, s1⟩ := al_MC ok hm h1 hF (c := .dk (mrgQ kvs more)) (o := .dK (mergeK ks ks2)) ⟨hF, _, upd_same, mrgQ_ok hp2 hp⟩
            exact ⟨p, p2, ks, ks2, rfl, rfl, hne, hH, hH2, by rw [← pr_len hp, ← pr_len hp2, sizeLine_eq]; exact hz, k _ _ _ _ s1 o1 (rv_none.mpr rfl)⟩
        · cases e
      · cases e
    · cases e
  · cases e
theorem ee_upd {apos : Pos} (ho : EE X a fa) (ha : EA X [e] fs)
    (hbase : attributeBase a "update" X.env (eval a X.env) = eval a X.env := by rfl)
    (hfew : ((backTo pos (starEach [e] X.env)).all (fun x => !x.1) && (backToKw pos (keywordEach [] X.env)).all (fun x => x.1.isSome)
      && decide ([e].length + ([] : List Keyword).length + (if ([] : List Keyword).isEmpty then 0 else 1) < 30)) = true := by rfl)
    (hline : (apos.endLine == pos.line) = true := by rfl) (hs : starEach [e] X.env = (false, eval e X.env) :: starEach [] X.env := by rfl) (hplain : (backTo pos (starEach [] X.env)).any (·.1) = false := by rfl) :
    EE X (.Call (.Attribute a "update" apos) [e] [] pos) (eMd gUpd fa fs) :=
  ee_of (pe_bm PySem.F.plainAttrs_dict PySem.F.slot_dict_update PySem.F.type_dict_update mt_upd ho ha hbase hfew hline hs hplain) fun F m H S ρ σ res S' ok ro e Q k => by
    obtain ⟨o, S1, e1, e⟩ := bnd_inv e
    split at e
    · rename_i i
      split at e
      · rename_i kvs hS
        obtain ⟨as, S2, e2, e⟩ := bnd_inv e
        refine sndE ok ro e1 _ fun v F1 m1 H1 st1 ok1 r1 => ?_
        have r1' := r1
        obtain ⟨p, hm, rfl⟩ := r1'
        obtain ⟨hF, ks, hH, hp⟩ := ok1.cell _ _ _ hm hS
        refine ⟨.inr (.inr (.inl ⟨rfl, .inl ⟨ks, hH⟩⟩)), ?_⟩
        refine sndA ok1 (ro_mono st1 ro) e2 _ fun us F2 m2 H2 st2 ok2 r2 => ?_
        exact rm_upd ok2 (rv_mono st2 r1) r2 e Q ((k.on st1).on st2)
      · cases e
    · cases e
/-! dict(..) of pairs -/
def pairQ : PyData → Option (L2.Key × Val)
  | .tuple [k, x] => (keyD k).map fun κ => (κ, .d x)
  | _ => none
def gDictP : List Val → Sto → Option (Val × Sto)
  | [a], S => match viewS S a with
    | some xs => match unD xs with
      | some ds => match mapO pairQ ds with
        | some kvs => some (.c S.length, S ++ [.dk (mrgQ [] kvs)])
        | none => none
      | none => none
    | none => none
  | _, _ => none
theorem pairs_ok {F H : Hp} {m : List Addr} (ex : Same F H) : ∀ {ds : List PyData} {vs : List V} {kvs : List (L2.Key × Val)}, mapO pairQ ds = some kvs → Paired (Rp K F) ds vs →
    ∃ (ps : List Addr) (ks : List (L2.Key × V)), vs = ps.map V.ref ∧ Paired (fun p kv => SqT K H p [kV kv.1, kv.2]) ps ks ∧ Paired (PV K F m) kvs ks
  | [], _, _, e, .nil => by cases e; exact ⟨[], [], rfl, .nil, .nil⟩
  | d :: ds, _, kvs, e, .cons r t => by
    have e' : ((pairQ d).bind fun b => (mapO pairQ ds).map (b :: ·)) = some kvs := e
    cases e1 : pairQ d with
    | none => rw [e1] at e'; cases e'
    | some q =>
      cases e2 : mapO pairQ ds with
      | none => rw [e1, e2] at e'; cases e'
      | some qs =>
        rw [e1, e2] at e'
        cases e'
        obtain ⟨ps, ks, rfl, h1, h2⟩ := pairs_ok (m := m) ex e2 t
        unfold pairQ at e1
        split at e1
        · rename_i k x
          cases e3 : keyD k with
          | none => rw [e3] at e1; cases e1
          | some κ =>
            rw [e3] at e1
            cases e1
            obtain ⟨a, ws, rfl, h3, h4⟩ := rp_tuple.mp r
            cases h4 with
            | @cons _ u _ _ q1 q2 =>
              cases q2 with
              | @cons _ w _ _ q2 q3 =>
                cases q3
                have := rp_key q1 e3
                subst this
                exact ⟨a :: ps, (κ, w) :: ks, rfl, .cons (.of (ex _ _ h3)) h1, .cons ⟨rfl, q2⟩ h2⟩
        · cases e1
theorem cg_dictP (hc : X.calm = true := by rfl) : CallG X (.type "dict") gDictP := ⟨_, call_dictP hc, fun F m H S as vs res S' ok rs e Q k => by
  unfold gDictP at e
  split at e
  · rename_i a
    split at e
    · rename_i xs h1
      split at e
      · rename_i ds h2
        split at e
        · rename_i kvs h3
          cases e
          cases rs with
          | cons r1 t =>
            cases t
            obtain ⟨p, ws, rfl, h4, h5⟩ := viewS_ok ok h1 r1
            obtain ⟨ps, ks, rfl, h6, h7⟩ := pairs_ok (m := m) ok.ex h3 (unD_ok h2 h5)
            refine ⟨p, ps, ks, rfl, .of h4, h6, fun q hq => ?_⟩
            obtain ⟨o1, s1, r2⟩ := al_NC ok (c := .dk (mrgQ [] kvs)) (o := .dK (mergeK [] ks)) hq fun hF st => ⟨hF, _, upd_same, pr_mono (fun x v r => ⟨r.1, rv_mono st r.2⟩) (mrgQ_ok h7 .nil)⟩
            exact k _ _ _ _ s1 o1 r2
        · cases e
      · cases e
    · cases e
  · cases e⟩
end
end QL

namespace QL
open PySem PySem.Spec PyProof.Rows L2
/-! ### sorted(..) of a list, a tuple, a dict -/
theorem sorted_gen {prog : Program} {w : World} {A : Around} {E : Value → Shared → Prop} {s : Shared} {x : Value} {Pv : List Value → Prop} {bs : List PyData} {R : Value → PyData → Prop} {Q : Value → Shared → Prop}
    (hcol : ∀ (E' : Value → Shared → Prop) (Q' : List Value → Shared → Prop), (∀ h' tk vs, (∀ b o, s.heap.get? b = some o → h'.get? b = some o) → Pv vs → Q' vs { s with heap := h', toks := tk }) → wpAny (model prog w) A.in1 (collect x) Q' E' s)
    (hv : ∀ vs, Pv vs → PySem.W.EachIs R vs bs ∧ PySem.W.EachIs (fun v b => ∃ as, Reads s.heap v b as) vs bs)
    (hal : PySem.W.AllAlike bs) (hk : PySem.W.Sortable bs) (hL : bs.length ≤ sizeLine) (hu : ∀ b, b ∈ bs → A.units + 2 + b.depth < cLine)
    (h : ∀ (h1 h' : Heap) tk p e out, (∀ b o, s.heap.get? b = some o → h1.get? b = some o) → (∀ b o, h1.get? b = some o → h'.get? b = some o) → h1.objs.size ≤ p → h'.get? p = some (seqObj "list" (List.toArray out) e) → out.length = bs.length → PySem.W.EachIs R out (bs.mergeSort (PySem.W.dataLe false id)) → Q (.ref p) { s with heap := h', toks := tk }) :
    wpAny (model prog w) A (call (.builtin "sorted") [x]) Q E s := by
  refine Calls.call_function_entry PyProof.Rows.kind_sorted PyProof.Rows.plain_sorted PyProof.Rows.entry_sorted (PyProof.Rows.args_sorted1 _) ?_
  unfold Builtin.«sorted»
  refine wpAny_bind (m := checkCount "sorted" 1 1 _) (wpAny_pure ?_)
  refine wpAny_bind (hcol _ _ fun h1 tk vs keep pv => ?_)
  obtain ⟨e1, er⟩ := hv vs pv
  have hlen : vs.length = bs.length := e1.length
  refine wpAny_bind (wpAny_newList ?_ (by rw [hlen]; exact hL))
  have hoL : (h1.push (seqObj "list" vs.toArray 0)).get? h1.objs.size = some (seqObj "list" vs.toArray 0) := Heap.get?_push_size _ rfl
  show wpAny _ _ _ _ _ { s with heap := h1.push (seqObj "list" vs.toArray 0), toks := tk }
  have old : ∀ b o, s.heap.get? b = some o → (PySem.W.sortingHeap (h1.push (seqObj "list" vs.toArray 0)) h1.objs.size vs).get? b = some o := fun b o q =>
    PySem.W.sortingHeap_old (Nat.ne_of_lt (Heap.lt_size (keep b o q))) (Heap.get?_push_of_some _ (keep b o q))
  have er' : PySem.W.EachIs (fun v b => ∃ as, Reads (PySem.W.sortingHeap (h1.push (seqObj "list" vs.toArray 0)) h1.objs.size vs) v (id b) as) vs bs := er.mono fun v b ⟨as, r⟩ => ⟨as, PyProof.Rows.Reads.keeps old r⟩
  have em : PySem.W.EachIs (fun v d => ∃ as, Reads (PySem.W.sortingHeap (h1.push (seqObj "list" vs.toArray 0)) h1.objs.size vs) v d as) vs (bs.map id) := PySem.W.each_map (R := fun v d => ∃ as, Reads (PySem.W.sortingHeap (h1.push (seqObj "list" vs.toArray 0)) h1.objs.size vs) v d as) id er'
  refine wpAny_bind (wpAny_holding (wpAny_call_entry PyProof.Rows.slot_list_sort ⟨_, hoL, rfl⟩ PyProof.Rows.entry_list_sort
    (PySem.W.list_sort_vals (s := { s with heap := h1.push (seqObj "list" vs.toArray 0), toks := tk }) (κ := PySem.W.dataKind (PySem.W.sortingHeap (h1.push (seqObj "list" vs.toArray 0)) h1.objs.size vs) (bs.map id)) hoL
      (PySem.W.SortsAt.data (s := { s with heap := PySem.W.sortingHeap (h1.push (seqObj "list" vs.toArray 0)) h1.objs.size vs, toks := tk }) em (by rw [List.map_id]; exact hal) (by rw [List.map_id]; exact hk) (fun d hd => by rw [List.map_id] at hd; exact hu d hd)) (by rw [hlen]; exact hL) ⟨_, rfl, ?_⟩) (PyProof.Rows.args_list_sort _)))
  obtain ⟨e', he'⟩ := PyProof.Rows.sortedHeap_at (vs := vs) (out := (PySem.W.sortVals (PySem.W.dataKind (PySem.W.sortingHeap (h1.push (seqObj "list" vs.toArray 0)) h1.objs.size vs) (bs.map id)) false vs vs).toArray) hoL
  refine wpAny_pure ⟨_, rfl, h h1 _ tk _ e' _ keep (fun b o q => ?_) (Nat.le_refl _) he' (by rw [PySem.W.sortVals_length false rfl]; exact hlen) (PySem.W.sortVals_data false e1 er' (by rw [List.map_id]; exact hal))⟩
  have hb : b < h1.objs.size := Heap.lt_size q
  rw [PyProof.Rows.sortedHeap_old (Nat.ne_of_lt hb) (by rw [size_push']; exact Nat.lt_succ_of_lt hb)]
  exact Heap.get?_push_of_some _ q
section
variable {X : Cx} {K : PySem.W.Frag}
def rSortedG (K : PySem.W.Frag) : List V → Hp → VK → Prop := fun vs H Q => ∃ (F : Hp) (a : Addr) (ds : List PyData), Same F H ∧ vs = [V.ref a] ∧ ((∃ ws, (SqL K H a ws ∨ SqT K H a ws) ∧ Paired (Rp K F) ds ws) ∨ (∃ kvs : List (L2.Key × V), Rd H a (.dK kvs) ∧ ds = kvs.map fun q => unK q.1)) ∧ SortOk ds ∧
  ∀ (ws' : List V) (p : Addr), Paired (Rp K F) (sortD ds) ws' → H p = none → Q (.ref p) (upd H p (.lst ws'))
theorem each_keys {K : PySem.W.Frag} {F : Hp} : ∀ {kvs : List (L2.Key × V)} {its : List Value}, Vals (kvs.map fun q => kV q.1) its → PySem.W.EachIs (fun v b => ∃ u, RelV u v ∧ Rp K F b u) its (kvs.map fun q => unK q.1)
  | [], _, .nil => .nil
  | _ :: _, _, .cons r t => .cons ⟨_, r, rp_unK _⟩ (each_keys t)
theorem cr_sortedG (hc : X.calm = true) (hu : X.A.units + 63 < cLine) : CallR X (.builtin "sorted") (rSortedG X.K) := by
  intro pins s σ H vs us Q I r h
  obtain ⟨F, a, ds, hF, rfl, hsrc, ⟨h1, h2, h3⟩, q⟩ := h
  rw [Vals.ref1 r]
  have fin : ∀ (R' : Value → PyData → Prop) (Pv : List Value → Prop), (∀ vs, Pv vs → PySem.W.EachIs (fun v b => ∃ u, RelV u v ∧ Rp X.K F b u) vs ds) → ds.length ≤ sizeLine →
      (∀ (E' : Value → Shared → Prop) (Q' : List Value → Shared → Prop), (∀ h' tk vs, (∀ b o, s.heap.get? b = some o → h'.get? b = some o) → Pv vs → Q' vs { s with heap := h', toks := tk }) → wpAny (model X.prog X.w) X.A.in1 (collect (.ref a)) Q' E' s) →
      wpAny (model X.prog X.w) X.A (call (.builtin "sorted") [.ref a]) (EP X pins σ Q) X.xe s := fun _ Pv hv hz hcol => by
    refine sorted_gen (R := fun v b => ∃ u, RelV u v ∧ Rp X.K F b u) hcol (fun vs pv => ⟨hv vs pv, (hv vs pv).mono fun v b ⟨u, q1, q2⟩ => Dp.reads I b u v (rp_dp b u (rp_mono hF b u q2)) q1⟩) h1 h2 hz (fun b hb => by have := h3 b hb; omega) fun hp h' tk p e out k1 k2 hpp hat ho eo => ?_
    obtain ⟨ws', k3, k4⟩ := of_each eo
    have hlen : ws'.length ≤ sizeLine := by rw [k4.length, ho]; exact hz
    have I1 : Inv X pins σ H { s with heap := hp, toks := tk } := I.kept k1
    exact ⟨.ref _, upd H p (.lst ws'), I1.laid (t' := tk) k2 hpp ⟨hlen, out, e, k4, hat⟩, rfl, q ws' p k3 (I1.hok.fresh hpp)⟩
  rcases hsrc with ⟨ws, hs, hp⟩ | ⟨kvs, hs, rfl⟩
  · rcases hs with hs | hs
    · obtain ⟨its, rv, hl, hz⟩ := I.list hs
      obtain ⟨o, ho, hcl, n, hd⟩ := hl.isList
      refine fin (fun _ _ => True) (fun vs => vs = its) (fun vs e => by rw [e]; exact each_of hp rv) (by rw [pr_len hp]; exact hz) fun E' Q' hq => ?_
      exact wpAny_collect_seq a (.inl rfl) ho hcl hd (fun h' k => hq h' s.toks _ k (by simp)) (by rw [List.size_toArray, ← rv.length]; exact hz)
    · obtain ⟨its, rv, ⟨o, ho, hcl, n, hd⟩, hz⟩ := I.tuple hs
      refine fin (fun _ _ => True) (fun vs => vs = its) (fun vs e => by rw [e]; exact each_of hp rv) (by rw [pr_len hp]; exact hz) fun E' Q' hq => ?_
      exact wpAny_collect_seq a (.inr rfl) ho hcl hd (fun h' k => hq h' s.toks _ k (by simp)) (by rw [List.size_toArray, ← rv.length]; exact hz)
  · obtain ⟨z, lo, vs, rel, dd⟩ := dk_rd I.hok hs
    obtain ⟨ep, hat⟩ := dd.dictAt
    have ek : (kvs.map fun kv => kV kv.1) = vs.map fun p => kV p.1 := by
      have e := congrArg (List.map kV) rel.keys
      rw [List.map_map, List.map_map] at e
      exact e
    refine fin (fun _ _ => True) (fun us => Vals (kvs.map fun q => kV q.1) us) (fun us e => each_keys e) (by rw [List.length_map]; exact z) fun E' Q' hq => ?_
    refine PySem.W.kdu_collect (A := X.A.in1) (PySem.W.kdl_dict (knd := mixKind X.prog X.w) (kvs := vs) (ep := ep) lo) (I.ok.hd hc) hat (by rw [← rel.length]; exact z) fun h' tk acc hk hacc => ?_
    refine hq h' tk _ hk ?_
    rw [ek]
    exact keys_at (by rw [Array.length_toList]; exact hacc.1) fun j v e => hacc.2 j v (by rw [← Array.getElem?_toList]; exact e)
theorem keyQ_eq {F : Hp} {m : List Addr} : ∀ {kvs : List (L2.Key × Val)} {ks : List (L2.Key × V)}, Paired (PV K F m) kvs ks → kvs.map (fun q => unK q.1) = ks.map (fun q => unK q.1)
  | _, _, .nil => rfl
  | _, _, .cons r t => by rw [List.map_cons, List.map_cons, keyQ_eq t, r.1]
/-- what is sorted -/
def srcQ (S : Sto) : Val → Option (List PyData)
  | .d (.tuple ds) => some ds
  | .c i => match S[i]? with
    | some (.dk kvs) => some (kvs.map fun q => unK q.1)
    | _ => (viewS S (.c i)).bind unD
  | a => (viewS S a).bind unD
open Classical in
noncomputable def gSortG (md : Md) : List Val → Sto → Option (Val × Sto)
  | [a], S => match srcQ S a with
    | some ds => if SortOk ds then alloc md ((sortD ds).map .d) S else none
    | none => none
  | _, _ => none
theorem srcQ_ok {F H : Hp} {m : List Addr} {S : Sto} (ok : SOk K F m H S) {a : Val} {v : V} {ds : List PyData} (r : RV K F m a v) (h : srcQ S a = some ds) : ∃ p, v = .ref p ∧ ((∃ ws, (SqL K H p ws ∨ SqT K H p ws) ∧ Paired (Rp K F) ds ws) ∨ (∃ kvs : List (L2.Key × V), Rd H p (.dK kvs) ∧ ds = kvs.map fun q => unK q.1)) := by
  have other : (viewS S a).bind unD = some ds → ∃ p, v = .ref p ∧ ((∃ ws, (SqL K H p ws ∨ SqT K H p ws) ∧ Paired (Rp K F) ds ws) ∨ (∃ kvs : List (L2.Key × V), Rd H p (.dK kvs) ∧ ds = kvs.map fun q => unK q.1)) := fun h => by
    cases e : viewS S a with
    | none => rw [e] at h; cases h
    | some xs =>
      rw [e] at h
      obtain ⟨p, ws, rfl, h1, h2⟩ := viewS_ok ok e r
      exact ⟨p, rfl, .inl ⟨ws, .inl (.of h1), unD_ok h h2⟩⟩
  unfold srcQ at h
  split at h
  · cases h
    obtain ⟨p, ws, rfl, h1, h2⟩ := rv_tuple.mp r
    exact ⟨p, rfl, .inl ⟨ws, .inr (same_t ok.ex h1), h2⟩⟩
  · split at h
    · rename_i kvs hS
      cases h
      obtain ⟨p, hm, rfl⟩ := r
      obtain ⟨hF, ks, hH, hp⟩ := ok.cell _ _ _ hm hS
      exact ⟨p, rfl, .inr ⟨ks, .inl hH, keyQ_eq hp⟩⟩
    · exact other h
  · exact other h
theorem cg_sortG (md : Md) (hu : X.A.units + 63 < cLine) (hc : X.calm = true := by rfl) : CallG X (.builtin "sorted") (gSortG md) := ⟨_, cr_sortedG hc hu, fun F m H S as vs res S' ok rs e Q k => by
  unfold gSortG at e
  split at e
  · rename_i a
    split at e
    · rename_i ds hd
      split at e
      · rename_i hz
        cases rs with
        | cons r1 t =>
          cases t
          obtain ⟨p, rfl, h1⟩ := srcQ_ok ok r1 hd
          exact ⟨F, p, ds, ok.ex, rfl, h1, hz, fun ws' q h3 hq => alloc_ok ok (rp_rvs h3) e k hq⟩
      · cases e
    · cases e
  · cases e⟩
end
end QL
namespace QL
open PySem PySem.Spec PyProof.Rows L2
/-! ### places in a text: the scopes of comprehensions within others -/
def noX : Expr := .Name (PySem.Str.ofString "") ⟨0, 0, 0, 0⟩
def xk : Expr → Nat → Expr
  | .BoolOp _ vs _, i => vs.getD i noX
  | .BinOp l _ r _, i => if i = 0 then l else r
  | .UnaryOp _ o _, _ => o
  | .IfExp t b o _, i => if i = 0 then t else if i = 1 then b else o
  | .List es _, i => es.getD i noX
  | .Tuple es _ _, i => es.getD i noX
  | .Dict _ vs _, i => vs.getD i noX
  | .ListComp e gs _ _, i => if i = 0 then e else match gs with
    | g :: _ => if i = 1 then g.iter else g.ifs.getD (i - 2) noX
    | [] => noX
  | .Compare l _ cs _, i => if i = 0 then l else cs.getD (i - 1) noX
  | .Call f as _ _, i => if i = 0 then f else as.getD (i - 1) noX
  | .Attribute v _ _, _ => v
  | .Subscript v s _, i => if i = 0 then v else s
  | .Slice l u _ _, i => if i = 0 then l.getD noX else u.getD noX
  | e, _ => e
def xS : Stmt → Expr
  | .Return v _ => v.getD noX
  | .Assign _ v _ => v
  | .AugAssign _ _ v _ => v
  | .For _ it _ _ _ => it
  | .While t _ _ _ => t
  | .If t _ _ _ => t
  | .Expr v _ => v
  | _ => noX
def sS : Stmt → Nat → Nat → Stmt
  | .For _ _ b _ _, 0, i => b.getD i (.Pass ⟨0, 0, 0, 0⟩)
  | .While _ b _ _, 0, i => b.getD i (.Pass ⟨0, 0, 0, 0⟩)
  | .If _ b _ _, 0, i => b.getD i (.Pass ⟨0, 0, 0, 0⟩)
  | .If _ _ b _, _, i => b.getD i (.Pass ⟨0, 0, 0, 0⟩)
  | s, _, _ => s
def lcS : Expr → Scope
  | .ListComp _ _ s _ => s
  | _ => { kind := .function, names := [], isGenerator := false, isCoroutine := false }
def rlS (sc fn : Scope) : Scope := relabel sc { scope := fn, locals := 0, globals := 0, cells := [] }
def bdS (s : Stmt) (i : Nat) : Stmt := (defBody s).getD i (.Pass ⟨0, 0, 0, 0⟩)
end QL

namespace QL
open PySem PySem.Spec PyProof.Rows L2
/-! ### what is asked of a run of the plain functions -/
def wp {α : Type} (x : Option (α × Sto)) (Q : α → Sto → Prop) : Prop := ∃ a S, x = some (a, S) ∧ Q a S
def wpS (x : Option (Fl × Rho × Sto)) (Q : Fl → Rho → Sto → Prop) : Prop := ∃ fl ρ S, x = some (fl, ρ, S) ∧ Q fl ρ S
theorem wp_congr {α : Type} {x y : Option (α × Sto)} {Q : α → Sto → Prop} (h : x = y) : wp x Q = wp y Q := by rw [h]
theorem wpS_congr {x y : Option (Fl × Rho × Sto)} {Q : Fl → Rho → Sto → Prop} (h : x = y) : wpS x Q = wpS y Q := by rw [h]
section
variable {α β : Type}
theorem wp_some {a : α} {S : Sto} {Q : α → Sto → Prop} : wp (some (a, S)) Q ↔ Q a S := by
  constructor
  · rintro ⟨_, _, e, h⟩; cases e; exact h
  · exact fun h => ⟨_, _, rfl, h⟩
theorem wp_bnd {x : Option (α × Sto)} {f : α → Sto → Option (β × Sto)} {Q : β → Sto → Prop} : wp (bnd x f) Q ↔ wp x fun a S => wp (f a S) Q := by
  constructor
  · rintro ⟨b, S, e, h⟩
    obtain ⟨a, S1, e1, e2⟩ := bnd_inv e
    exact ⟨a, S1, e1, b, S, e2, h⟩
  · rintro ⟨a, S1, rfl, b, S, e, h⟩
    exact ⟨b, S, e, h⟩
theorem wp_mono {x : Option (α × Sto)} {Q R : α → Sto → Prop} (h : wp x Q) (k : ∀ a S, Q a S → R a S) : wp x R := by
  obtain ⟨a, S, e, q⟩ := h
  exact ⟨a, S, e, k a S q⟩
theorem wpS_mono {x : Option (Fl × Rho × Sto)} {Q R : Fl → Rho → Sto → Prop} (h : wpS x Q) (k : ∀ a ρ S, Q a ρ S → R a ρ S) : wpS x R := by
  obtain ⟨a, ρ, S, e, q⟩ := h
  exact ⟨a, ρ, S, e, k a ρ S q⟩
theorem wpS_some {fl : Fl} {ρ : Rho} {S : Sto} {Q : Fl → Rho → Sto → Prop} : wpS (some (fl, ρ, S)) Q ↔ Q fl ρ S := by
  constructor
  · rintro ⟨_, _, _, e, h⟩; cases e; exact h
  · exact fun h => ⟨_, _, _, rfl, h⟩
theorem wp_none {Q : α → Sto → Prop} : ¬ wp none Q := by
  rintro ⟨_, _, e, _⟩
  cases e
theorem wpS_none {Q : Fl → Rho → Sto → Prop} : ¬ wpS none Q := by
  rintro ⟨_, _, _, e, _⟩
  cases e
theorem nn {p q : Prop} (h : ¬ p) (k : ¬ q) : p ↔ q := ⟨fun z => (h z).elim, fun z => (k z).elim⟩
theorem wp_map {x : Option (α × Sto)} {g : α → β} {Q : β → Sto → Prop} : wp (x.map fun p => (g p.1, p.2)) Q ↔ wp x fun a S => Q (g a) S := by
  cases x with
  | none => exact nn wp_none wp_none
  | some p =>
    obtain ⟨a, S1⟩ := p
    refine Iff.trans wp_some ?_
    rw [wp_some]
end
/-- what follows a statement -/
def kSeq (f : Sf) (Q : Fl → Rho → Sto → Prop) : Fl → Rho → Sto → Prop
  | .nx, ρ, S => wpS (f ρ S) Q
  | fl, ρ, S => Q fl ρ S
theorem kSeq_nx {f : Sf} {Q : Fl → Rho → Sto → Prop} {ρ : Rho} {S : Sto} : kSeq f Q .nx ρ S ↔ wpS (f ρ S) Q := Iff.rfl
theorem kSeq_rt {f : Sf} {Q : Fl → Rho → Sto → Prop} {ρ : Rho} {S : Sto} {v : Val} : kSeq f Q (.rt v) ρ S ↔ Q (.rt v) ρ S := Iff.rfl
theorem kSeq_bk {f : Sf} {Q : Fl → Rho → Sto → Prop} {ρ : Rho} {S : Sto} : kSeq f Q .bk ρ S ↔ Q .bk ρ S := Iff.rfl
theorem kSeq_ct {f : Sf} {Q : Fl → Rho → Sto → Prop} {ρ : Rho} {S : Sto} : kSeq f Q .ct ρ S ↔ Q .ct ρ S := Iff.rfl
section
variable {f g : Sf} {e e1 e2 e3 : Ef} {t t1 t2 : Tf} {af : Af} {G : Gf} {ρ : Rho} {S : Sto} {Q : Fl → Rho → Sto → Prop} {R : Val → Sto → Prop} {RT : Bool → Sto → Prop} {RA : List Val → Sto → Prop}
theorem w_seq : wpS (sSeq f g ρ S) Q ↔ wpS (f ρ S) (kSeq g Q) := by
  unfold sSeq
  cases h : f ρ S with
  | none => constructor <;> rintro ⟨_, _, _, e, _⟩ <;> cases e
  | some p =>
    obtain ⟨fl, ρ1, S1⟩ := p
    cases fl <;> (rw [wpS_some]; first | exact Iff.rfl | exact wpS_some)
theorem w_nil : wpS (sNil ρ S) Q ↔ Q .nx ρ S := wpS_some
theorem w_ret : wpS (sRet e ρ S) Q ↔ wp (e ρ S) fun v S1 => Q (.rt v) ρ S1 := by
  unfold sRet
  cases h : e ρ S with
  | none => exact nn (by first | exact wp_none | exact wpS_none) (by first | exact wp_none | exact wpS_none | (rintro ⟨_, _, q, _⟩; cases q))
  | some p =>
    obtain ⟨a, S1⟩ := p
    refine Iff.trans wpS_some ?_
    rw [wp_some]
theorem w_expr : wpS (sExpr e ρ S) Q ↔ wp (e ρ S) fun v S1 => Q .nx ρ S1 := by
  unfold sExpr
  cases h : e ρ S with
  | none => exact nn (by first | exact wp_none | exact wpS_none) (by first | exact wp_none | exact wpS_none | (rintro ⟨_, _, q, _⟩; cases q))
  | some p =>
    obtain ⟨a, S1⟩ := p
    refine Iff.trans wpS_some ?_
    rw [wp_some]
theorem w_asg : wpS (sAsg e G ρ S) Q ↔ wp (e ρ S) fun v S1 => wp (G v ρ S1) fun ρ2 S2 => Q .nx ρ2 S2 := by
  unfold sAsg
  cases h : e ρ S with
  | none => exact nn (by first | exact wp_none | exact wpS_none) (by first | exact wp_none | exact wpS_none | (rintro ⟨_, _, q, _⟩; cases q))
  | some p =>
    rw [show (some p : Option (Val × Sto)) = some (p.1, p.2) from rfl, wp_some]
    show wpS (match G p.1 ρ p.2 with | some (ρ2, S2) => some (Fl.nx, ρ2, S2) | none => none) Q ↔ _
    cases h2 : G p.1 ρ p.2 with
    | none => exact nn (by first | exact wp_none | exact wpS_none) (by first | exact wp_none | exact wpS_none | (rintro ⟨_, _, q, _⟩; cases q))
    | some p =>
    obtain ⟨a, S1⟩ := p
    refine Iff.trans wpS_some ?_
    rw [wp_some]
theorem w_if : wpS (sIf t f g ρ S) Q ↔ wp (t ρ S) fun c S1 => (c = true → wpS (f ρ S1) Q) ∧ (c = false → wpS (g ρ S1) Q) := by
  unfold sIf
  cases h : t ρ S with
  | none => exact nn (by first | exact wp_none | exact wpS_none) (by first | exact wp_none | exact wpS_none | (rintro ⟨_, _, q, _⟩; cases q))
  | some p =>
    obtain ⟨c, S1⟩ := p
    rw [wp_some]
    cases c <;> simp
theorem w_par {i j : Nat} : wpS (sPar i j af ρ S) Q ↔ wp (af ρ S) fun vs S1 => ∃ a b, vs = [a, b] ∧ Q .nx ((ρ.set i (some a)).set j (some b)) S1 := by
  unfold sPar
  cases h : af ρ S with
  | none => exact nn (by first | exact wp_none | exact wpS_none) (by first | exact wp_none | exact wpS_none | (rintro ⟨_, _, q, _⟩; cases q))
  | some p =>
    obtain ⟨vs, S1⟩ := p
    rw [wp_some]
    match vs with
    | [] => exact nn (by first | exact wp_none | exact wpS_none) (by first | exact wp_none | exact wpS_none | (rintro ⟨_, _, q, _⟩; cases q))
    | [_] => exact nn (by first | exact wp_none | exact wpS_none) (by first | exact wp_none | exact wpS_none | (rintro ⟨_, _, q, _⟩; cases q))
    | [a, b] =>
      refine wpS_some.trans ⟨fun h => ⟨a, b, rfl, h⟩, ?_⟩
      rintro ⟨_, _, e, h⟩
      cases e
      exact h
    | _ :: _ :: _ :: _ => exact nn (by first | exact wp_none | exact wpS_none) (by first | exact wp_none | exact wpS_none | (rintro ⟨_, _, q, _⟩; cases q))
theorem w_for {fi : If} : wpS (sFor fi G f ρ S) Q ↔ wp (fi ρ S) fun ds S1 => wpS (forL G f ds ρ S1) Q := by
  unfold sFor
  cases h : fi ρ S with
  | none => exact nn (by first | exact wp_none | exact wpS_none) (by first | exact wp_none | exact wpS_none | (rintro ⟨_, _, q, _⟩; cases q))
  | some p => rw [show (some p : Option (List PyData × Sto)) = some (p.1, p.2) from rfl, wp_some]
theorem w_frz {i : Nat} {a : Val} (h : ρ[i]? = some (some a)) : wpS (sFrz i f ρ S) Q ↔ wp (frz1 a S) fun x S1 => wpS (f (ρ.set i (some (.d x))) S1) Q := by
  unfold sFrz
  rw [h]
  show wpS (match frz1 a S with | some (x, S1) => f (ρ.set i (some (.d x))) S1 | none => none) Q ↔ _
  cases h2 : frz1 a S with
  | none => exact nn (by first | exact wp_none | exact wpS_none) (by first | exact wp_none | exact wpS_none | (rintro ⟨_, _, q, _⟩; cases q))
  | some p => rw [show (some p : Option (PyData × Sto)) = some (p.1, p.2) from rfl, wp_some]
/-- a loop, by what holds ahead of each turn -/
theorem w_loop (I : Nat → Rho → Sto → Prop) {ds : List PyData} (h0 : I 0 ρ S)
    (hs : ∀ i d ρ S, ds[i]? = some d → I i ρ S → wp (G (.d d) ρ S) fun ρ1 S1 => wpS (f ρ1 S1) fun fl ρ2 S2 => match fl with
      | .nx => I (i + 1) ρ2 S2
      | .ct => I (i + 1) ρ2 S2
      | .bk => Q .nx ρ2 S2
      | .rt v => Q (.rt v) ρ2 S2)
    (hd : ∀ ρ S, I ds.length ρ S → Q .nx ρ S) : wpS (forL G f ds ρ S) Q := by
  have key : ∀ (n i : Nat) (ρ : Rho) (S : Sto), n = ds.length - i → i ≤ ds.length → I i ρ S → wpS (forL G f (ds.drop i) ρ S) Q := by
    intro n
    induction n with
    | zero =>
      intro i ρ S hn hi h
      have e : i = ds.length := by omega
      subst e
      rw [List.drop_length]
      exact ⟨_, _, _, rfl, hd ρ S h⟩
    | succ n ih =>
      intro i ρ S hn hi h
      have hlt : i < ds.length := by omega
      obtain ⟨ρ1, S1, e1, fl, ρ2, S2, e2, q⟩ := hs i ds[i] ρ S (List.getElem?_eq_getElem hlt) h
      rw [List.drop_eq_getElem_cons hlt]
      show wpS (forL G f (ds[i] :: ds.drop (i + 1)) ρ S) Q
      rw [forL]
      simp only [e1, e2]
      cases fl with
      | nx => exact ih (i + 1) ρ2 S2 (by omega) hlt q
      | ct => exact ih (i + 1) ρ2 S2 (by omega) hlt q
      | bk => exact ⟨_, _, _, rfl, q⟩
      | rt v => exact ⟨_, _, _, rfl, q⟩
  have := key ds.length 0 ρ S (by omega) (Nat.zero_le _) h0
  rw [List.drop_zero] at this
  exact this
/-- a comprehension, by what holds ahead of each turn -/
theorem w_lcL (I : Nat → List Val → Sto → Prop) {ds : List PyData} {R : List Val → Sto → Prop} (h0 : I 0 [] S)
    (hs : ∀ i d acc S, ds[i]? = some d → I i acc S → wp (G (.d d) ρ S) fun ρ1 S1 => wp (t ρ1 S1) fun b S2 => (b = true → wp (e ρ1 S2) fun v S3 => I (i + 1) (acc ++ [v]) S3) ∧ (b = false → I (i + 1) acc S2))
    (hd : ∀ acc S, I ds.length acc S → R acc S) : wp (lcL G t e ρ ds S) R := by
  have key : ∀ (n i : Nat) (acc : List Val) (S : Sto), n = ds.length - i → i ≤ ds.length → I i acc S → wp (lcL G t e ρ (ds.drop i) S) fun vs S' => R (acc ++ vs) S' := by
    intro n
    induction n with
    | zero =>
      intro i acc S hn hi h
      have e : i = ds.length := by omega
      subst e
      rw [List.drop_length]
      exact ⟨[], S, rfl, by show R (acc ++ []) S; rw [List.append_nil]; exact hd acc S h⟩
    | succ n ih =>
      intro i acc S hn hi h
      have hlt : i < ds.length := by omega
      obtain ⟨ρ1, S1, e1, b, S2, e2, q1, q2⟩ := hs i ds[i] acc S (List.getElem?_eq_getElem hlt) h
      rw [List.drop_eq_getElem_cons hlt]
      cases b with
      | true =>
        obtain ⟨v, S3, e3, q⟩ := q1 rfl
        obtain ⟨vs, S4, e4, q4⟩ := ih (i + 1) (acc ++ [v]) S3 (by omega) hlt q
        refine ⟨v :: vs, S4, ?_, ?_⟩
        · rw [lcL]
          simp only [e1, e2, e3, e4]
        · rw [List.append_assoc] at q4
          exact q4
      | false =>
        obtain ⟨vs, S4, e4, q4⟩ := ih (i + 1) acc S2 (by omega) hlt (q2 rfl)
        refine ⟨vs, S4, ?_, q4⟩
        rw [lcL]
        simp only [e1, e2, e4]
  have := key ds.length 0 [] S (by omega) (Nat.zero_le _) h0
  rw [List.drop_zero] at this
  exact this
theorem w_lc {md : Md} {fi : If} {vs : List Nat} : wp (eLc md fi G t e vs ρ S) R ↔ wp (fi ρ S) fun ds S1 => ds.length < sizeLine ∧ wp (lcL G t e (wipeR ρ vs) ds S1) fun xs S2 => wp (alloc md xs S2) R := by
  unfold eLc
  cases h : fi ρ S with
  | none => constructor <;> rintro ⟨_, _, q, _⟩ <;> cases q
  | some p =>
    obtain ⟨ds, S1⟩ := p
    rw [wp_some]
    by_cases hz : ds.length < sizeLine
    · simp only [hz, if_true, true_and]
      cases h2 : lcL G t e (wipeR ρ vs) ds S1 with
      | none => exact nn wp_none wp_none
      | some p =>
        obtain ⟨a, S1⟩ := p
        rw [wp_some]
    · simp only [hz, if_false, false_and]
      constructor
      · rintro ⟨_, _, q, _⟩; cases q
      · exact fun h => h.elim
theorem w_var {i : Nat} {v : Val} (h : ρ[i]? = some (some v)) : eVar i ρ S = some (v, S) := by
  unfold eVar
  rw [h]
theorem w_c {x : PyData} : eC x ρ S = some (.d x, S) := rfl
theorem w_bin {g : Val → Val → Sto → Option (Val × Sto)} : eBin g e1 e2 ρ S = bnd (e1 ρ S) fun a S1 => bnd (e2 ρ S1) fun b S2 => g a b S2 := rfl
theorem w_aNil : aNil ρ S = some ([], S) := rfl
theorem w_aCons : aCons e af ρ S = bnd (e ρ S) fun a S1 => bnd (af ρ S1) fun as S2 => some (a :: as, S2) := rfl
theorem w_cb {g : List Val → Sto → Option (Val × Sto)} : eCB g af ρ S = bnd (af ρ S) g := rfl
theorem w_call {n : Nat} {φ : List Val → Sto → Option (Val × Sto)} : eCall n φ af ρ S = bnd (af ρ S) fun as S1 => if as.length = n then φ as S1 else none := rfl
theorem w_tst : tst e ρ S = bnd (e ρ S) fun a S1 => match a with | .d (.bool b) => some (b, S1) | _ => none := rfl
theorem w_not : fNot t ρ S = bnd (t ρ S) fun a S1 => some (!a, S1) := rfl
theorem w_and : fAnd t1 t2 ρ S = bnd (t1 ρ S) fun a S1 => if a = true then t2 ρ S1 else some (false, S1) := rfl
theorem w_or : fOr t1 t2 ρ S = bnd (t1 ρ S) fun a S1 => if a = true then some (true, S1) else t2 ρ S1 := rfl
theorem w_eif : eIf t e1 e2 ρ S = bnd (t ρ S) fun c S1 => if c = true then e1 ρ S1 else e2 ρ S1 := rfl
theorem w_frzE : eFrz e ρ S = bnd (e ρ S) fun a S1 => (frz1 a S1).map fun p => (.d p.1, p.2) := by
  unfold eFrz
  congr
  funext a S1
  cases frz1 a S1 <;> rfl
theorem w_lst {md : Md} : eLst md af ρ S = bnd (af ρ S) fun as S1 => if as.length ≤ sizeLine then alloc md as S1 else none := rfl
theorem w_tup : eTup af ρ S = bnd (af ρ S) fun as S1 => if as.length ≤ sizeLine then mkT as S1 else none := rfl
end
/-- a def's call, from its body -/
theorem w_fn {nN j : Nat} {fb : Sf} {as : List Val} {S : Sto} {R : Val → Sto → Prop} (h : wpS (fb (initR nN as) S) fun fl _ S1 => ∃ r S' T, (fl = .rt r ∨ (fl = .nx ∧ r = .d .none)) ∧ S1 = S' ++ T ∧ S'.length = S.length + j ∧ Keep S S' r ∧ R r S') : wp (φof nN j fb as S) R := by
  obtain ⟨fl, ρ, S1, e, r, S', T, hf, rfl, hl, hk, q⟩ := h
  rcases hf with rfl | ⟨rfl, rfl⟩
  · exact ⟨r, S', φof_eq e hl hk, q⟩
  · exact ⟨_, S', φof_nx e hl hk, q⟩

/-! ### equations of the operators on plain values -/
section
variable {ρ : Rho} {S : Sto} {md : Md} {i j : Int} {x y : PyData} {s1 s2 : Str}
theorem q_addI : gAdd md (.d (.int i)) (.d (.int j)) S = some (.d (.int (i + j)), S) := rfl
theorem q_sub : gSub (.d (.int i)) (.d (.int j)) S = some (.d (.int (i - j)), S) := rfl
theorem q_mod (h : 0 < j) : gMod (.d (.int i)) (.d (.int j)) S = some (.d (.int (i % j)), S) := by
  show (if decide (0 < j) = true then _ else _) = _
  rw [if_pos (decide_eq_true h)]
theorem q_div (h : 0 < j ∧ j < 1073741824) : gDiv (.d (.int i)) (.d (.int j)) S = some (.d (.int (i / j)), S) := by
  show (if decide (0 < j ∧ j < 1073741824) = true then _ else _) = _
  rw [if_pos (decide_eq_true h)]
theorem q_mulI (h : (-(2 ^ 64) < i ∧ i < 2 ^ 64) ∨ (-(2 ^ 64) < j ∧ j < 2 ^ 64)) : gMul md (.d (.int i)) (.d (.int j)) S = some (.d (.int (i * j)), S) := by
  unfold gMul alt2 gMulI gI
  simp only [decide_eq_true h, if_true]
theorem q_pow (h : 0 ≤ j ∧ j ≤ 1000000 ∧ i.natAbs < 2 ^ 64) : gPow (.d (.int i)) (.d (.int j)) S = some (.d (.int (i ^ j.toNat)), S) := by
  show (if decide (0 ≤ j ∧ j ≤ 1000000 ∧ i.natAbs < 2 ^ 64) = true then _ else _) = _
  rw [if_pos (decide_eq_true h)]
theorem q_lt : gLtI (.d (.int i)) (.d (.int j)) S = some (.d (.bool (decide (i < j))), S) := rfl
theorem q_gt : gGtI (.d (.int i)) (.d (.int j)) S = some (.d (.bool (decide (j < i))), S) := rfl
theorem q_ge : gGeI (.d (.int i)) (.d (.int j)) S = some (.d (.bool (decide (j ≤ i))), S) := rfl
theorem q_le : gLe (.d (.int i)) (.d (.int j)) S = some (.d (.bool (decide (i ≤ j))), S) := rfl
theorem q_eq (h1 : x.plain = true) (h2 : y.plain = true) (h3 : min x.depth y.depth ≤ 60) : gEq (.d x) (.d y) S = some (.d (.bool (PyData.eqv x y)), S) := by
  unfold gEq
  simp only [look_d, dEqv, h1, h2, decide_eq_true h3, Bool.and_self, if_true, Option.map]
theorem q_ne (h1 : x.plain = true) (h2 : y.plain = true) (h3 : min x.depth y.depth ≤ 60) : gNe (.d x) (.d y) S = some (.d (.bool (!PyData.eqv x y)), S) := by
  unfold gNe
  simp only [look_d, dEqv, h1, h2, decide_eq_true h3, Bool.and_self, if_true, Option.map]
theorem q_eqI : gEq (.d (.int i)) (.d (.int j)) S = some (.d (.bool (decide (i = j))), S) := by
  rw [q_eq rfl rfl (by show min 0 0 ≤ 60; decide)]
  show some (Val.d (.bool (i == j)), S) = _
  rw [show (i == j) = decide (i = j) from rfl]
theorem q_neI : gNe (.d (.int i)) (.d (.int j)) S = some (.d (.bool (!decide (i = j))), S) := by
  rw [q_ne rfl rfl (by show min 0 0 ≤ 60; decide)]
  rfl
theorem q_eqB {a b : Bool} : gEq (.d (.bool a)) (.d (.bool b)) S = some (.d (.bool (a == b)), S) := q_eq rfl rfl (by show min 0 0 ≤ 60; decide)
theorem q_neB {a b : Bool} : gNe (.d (.bool a)) (.d (.bool b)) S = some (.d (.bool (!(a == b))), S) := q_ne rfl rfl (by show min 0 0 ≤ 60; decide)
theorem q_eqS : gEq (.d (.str s1)) (.d (.str s2)) S = some (.d (.bool (s1 == s2)), S) := q_eq rfl rfl (by show min 0 0 ≤ 60; decide)
theorem q_neS : gNe (.d (.str s1)) (.d (.str s2)) S = some (.d (.bool (!(s1 == s2))), S) := q_ne rfl rfl (by show min 0 0 ≤ 60; decide)
theorem q_is : gIs false (.d x) (.d .none) S = some (.d (.bool (isNo x)), S) := by
  show some (Val.d (.bool (xor false (isNo x))), S) = _
  rw [Bool.false_xor]
theorem q_isnot : gIs true (.d x) (.d .none) S = some (.d (.bool (!isNo x)), S) := by
  show some (Val.d (.bool (xor true (isNo x))), S) = _
  rw [Bool.true_xor]
theorem q_abs : gAbs [.d (.int i)] S = some (.d (.int (if i < 0 then -i else i)), S) := rfl
theorem q_max : gMax2 [.d (.int i), .d (.int j)] S = some (.d (.int (if j > i then j else i)), S) := rfl
theorem q_min : gMin2 [.d (.int i), .d (.int j)] S = some (.d (.int (if j < i then j else i)), S) := rfl
theorem q_intI : gInt [.d (.int i)] S = some (.d (.int i), S) := rfl
theorem q_intB {b : Bool} : gInt [.d (.bool b)] S = some (.d (.int (if b then 1 else 0)), S) := rfl
theorem q_divmod (h : 0 < j ∧ j < 1073741824) : gDivmod [.d (.int i), .d (.int j)] S = some (.d (.tuple [.int (i / j), .int (i % j)]), S) := by
  unfold gDivmod
  simp only [if_pos h]
theorem q_lenL {ds : List PyData} : gLen [.d (.list ds)] S = some (.d (.int ds.length), S) := by
  simp only [gLen, viewL, viewS, List.length_map]
theorem q_lenT {ds : List PyData} : gLen [.d (.tuple ds)] S = some (.d (.int ds.length), S) := rfl
theorem q_lenC {k : Nat} {xs : List Val} (h : S[k]? = some (.lst xs)) : gLen [.c k] S = some (.d (.int xs.length), S) := by
  simp only [gLen, viewL, viewS, h]
theorem q_lenS (h : s1.length ≤ sizeLine) : gLen [.d (.str s1)] S = some (.d (.int s1.length), S) := by
  simp only [gLen, if_pos h]
theorem q_ixL {ds : List PyData} : gIx (.d (.list ds)) (.d (.int i)) S = (atI (ds.map Val.d) i).map fun x => (x, S) := rfl
theorem q_ixT {ds : List PyData} : gIx (.d (.tuple ds)) (.d (.int i)) S = (atI (ds.map Val.d) i).map fun x => (x, S) := rfl
theorem q_ixC {k : Nat} {xs : List Val} (h : S[k]? = some (.lst xs)) : gIx (.c k) (.d (.int i)) S = (atI xs i).map fun x => (x, S) := by
  simp only [gIx, viewQ, viewL, viewS, h]
theorem q_gN {k : Nat} {a : Val} : gN k a ρ S = some (ρ.set k (some a), S) := rfl
theorem q_gTu {n : Nat} {r : Gs} {ds : List PyData} (h : ds.length = n) : gTu n r (.d (.tuple ds)) ρ S = r (ds.map .d) ρ S := by
  simp only [gTu, if_pos h]
theorem q_gsNil : gsNil [] ρ S = some (ρ, S) := rfl
theorem q_gsCons {g : Gf} {r : Gs} {a : Val} {as : List Val} : gsCons g r (a :: as) ρ S = match g a ρ S with
    | some (ρ1, S1) => r as ρ1 S1
    | none => none := rfl
theorem w_gsCons {g : Gf} {r : Gs} {a : Val} {as : List Val} {Q : Rho → Sto → Prop} : wp (gsCons g r (a :: as) ρ S) Q ↔ wp (g a ρ S) fun ρ1 S1 => wp (r as ρ1 S1) Q := by
  rw [q_gsCons]
  cases g a ρ S with
  | none => constructor <;> rintro ⟨_, _, q, _⟩ <;> cases q
  | some p => rw [show (some p : Option (Rho × Sto)) = some (p.1, p.2) from rfl, wp_some]
theorem w_gSub2 {fo fi : Ef} {v : Val} {Q : Rho → Sto → Prop} : wp (gSub2 fo fi v ρ S) Q ↔ wp (fo ρ S) fun o S1 => wp (fi ρ S1) fun i S2 => ∃ S3, setIx o i v S2 = some S3 ∧ Q ρ S3 := by
  unfold gSub2
  cases h : fo ρ S with
  | none => constructor <;> rintro ⟨_, _, q, _⟩ <;> cases q
  | some p =>
    rw [show (some p : Option (Val × Sto)) = some (p.1, p.2) from rfl, wp_some]
    cases h2 : fi ρ p.2 with
    | none => simp only [h2]; constructor <;> rintro ⟨_, _, q, _⟩ <;> cases q
    | some q =>
      rw [show (some q : Option (Val × Sto)) = some (q.1, q.2) from rfl, wp_some]
      simp only [h2]
      cases h3 : setIx p.1 q.1 v q.2 with
      | none =>
        constructor
        · rintro ⟨_, _, q, _⟩; cases q
        · rintro ⟨_, q, _⟩; cases q
      | some S3 =>
        refine wp_some.trans ⟨fun h => ⟨S3, rfl, h⟩, ?_⟩
        rintro ⟨_, q, h⟩
        cases q
        exact h
theorem q_setC {k : Nat} {xs : List Val} {v : Val} {n : Nat} (h : S[k]? = some (.lst xs)) (hn : ixN xs.length i = some n) : setIx (.c k) (.d (.int i)) v S = some (S.set k (.lst (xs.set n v))) := by
  simp only [setIx, h, hn]
theorem q_frzD : frz1 (.d x) S = some (x, S) := rfl
theorem q_frzC {k : Nat} {ds : List PyData} (h : S[k]? = some (.lst (ds.map .d))) : frz1 (.c k) S = some (.list ds, S.set k (.frz (.list ds))) := by
  simp only [frz1, h, unD_d, Option.map]
theorem q_iR1 {fs : Af} (h : fs ρ S = some ([.d (.int j)], S)) (hj : -(2 ^ 62) ≤ j ∧ j < 2 ^ 62) : iR1 fs ρ S = some (rngD 0 j.toNat, S) := by
  unfold iR1
  simp only [h, small62, decide_eq_true hj, if_true]
theorem w_iR1 {fs : Af} {Q : List PyData → Sto → Prop} (h : wp (fs ρ S) fun as S1 => ∃ j : Int, as = [.d (.int j)] ∧ (-(2 ^ 62) ≤ j ∧ j < 2 ^ 62) ∧ Q (rngD 0 j.toNat) S1) : wp (iR1 fs ρ S) Q := by
  obtain ⟨as, S1, e, j, rfl, hj, q⟩ := h
  refine ⟨_, _, ?_, q⟩
  unfold iR1
  simp only [e, small62, decide_eq_true hj, if_true]
theorem w_iR2 {fs : Af} {Q : List PyData → Sto → Prop} (h : wp (fs ρ S) fun as S1 => ∃ i j : Int, as = [.d (.int i), .d (.int j)] ∧ (-(2 ^ 62) ≤ i ∧ i < 2 ^ 62) ∧ (-(2 ^ 62) ≤ j ∧ j < 2 ^ 62) ∧ Q (rngD i (j - i).toNat) S1) : wp (iR2 fs ρ S) Q := by
  obtain ⟨as, S1, e, i, j, rfl, hi, hj, q⟩ := h
  refine ⟨_, _, ?_, q⟩
  unfold iR2
  simp only [e, small62, decide_eq_true hi, decide_eq_true hj, and_self, if_true]
theorem w_iEn {fs : Af} {Q : List PyData → Sto → Prop} (h : wp (fs ρ S) fun as S1 => ∃ ds, as = [.d (.list ds)] ∧ Q (enumD 0 ds) S1) : wp (iEn fs ρ S) Q := by
  obtain ⟨as, S1, e, ds, rfl, q⟩ := h
  refine ⟨_, _, ?_, q⟩
  unfold iEn
  simp only [e]
theorem w_iZp {fs : Af} {Q : List PyData → Sto → Prop} (h : wp (fs ρ S) fun as S1 => ∃ ds es, as = [.d (.list ds), .d (.list es)] ∧ Q (zipD ds es) S1) : wp (iZp fs ρ S) Q := by
  obtain ⟨as, S1, e, ds, es, rfl, q⟩ := h
  refine ⟨_, _, ?_, q⟩
  unfold iZp
  simp only [e]
theorem w_iSq {f : Ef} {Q : List PyData → Sto → Prop} (h : wp (f ρ S) fun a S1 => ∃ ds, itemsD a = some ds ∧ Q ds S1) : wp (iSq f ρ S) Q := by
  obtain ⟨a, S1, e, ds, h1, q⟩ := h
  refine ⟨_, _, ?_, q⟩
  unfold iSq
  simp only [e, h1]
theorem q_sumD (ns : List Int) : gSum [.d (.list (ns.map .int))] S = some (.d (.int ns.sum), S) := by
  unfold gSum
  simp only [lookIs_d, Option.map]
theorem q_allD (ns : List Bool) : gAll [.d (.list (ns.map .bool))] S = some (.d (.bool (ns.all id)), S) := by
  unfold gAll
  simp only [lookBs_d, Option.map]
theorem q_anyD (ns : List Bool) : gAny [.d (.list (ns.map .bool))] S = some (.d (.bool (ns.any id)), S) := by
  unfold gAny
  simp only [lookBs_d, Option.map]
theorem q_slL {ds : List PyData} {lo hi : Option Int} : gSl .D (.d (.list ds)) lo hi S = some (.d (.list (cutG ds lo hi)), S) := by
  have e : cutG (ds.map Val.d) lo hi = (cutG ds lo hi).map Val.d := by
    unfold cutG
    rw [List.length_map, List.map_take, List.map_drop]
  simp only [gSl, viewL, viewS, e, alloc_D]
theorem q_slS {ns : List Int} {lo hi : Option Int} : gSl .D (.s ns) lo hi S = some (.d (.list ((cutG ns lo hi).map .int)), S) := by
  have e : cutG (ns.map fun i => Val.d (.int i)) lo hi = ((cutG ns lo hi).map PyData.int).map Val.d := by
    unfold cutG
    rw [List.length_map, List.map_map, List.map_take, List.map_drop]
    rfl
  simp only [gSl, viewL, e, alloc_D]
theorem w_oNo : oNo ρ S = some (none, S) := rfl
theorem w_oSo {f : Ef} : oSo f ρ S = bnd (f ρ S) fun a S1 => match a with | .d (.int i) => some (some i, S1) | _ => none := rfl
theorem w_eSl {fa : Ef} {fl fh : Of} : eSl md fa fl fh ρ S = bnd (fa ρ S) fun a S1 => bnd (fl ρ S1) fun l S2 => bnd (fh ρ S2) fun u S3 => gSl md a l u S3 := rfl
theorem w_isi {Ts : List String} {fa : Ef} : gIsi Ts fa ρ S = bnd (fa ρ S) fun a S1 => match look S1 a with | some d => some (.d (.bool (Ts.any fun T => isT d T)), S1) | none => none := rfl
theorem w_eAnd {f g : Ef} : eAnd f g ρ S = bnd (f ρ S) fun a S1 => match a with | .d (.bool true) => g ρ S1 | .d (.bool false) => some (.d (.bool false), S1) | _ => none := rfl
theorem w_eOr {f g : Ef} : eOr f g ρ S = bnd (f ρ S) fun a S1 => match a with | .d (.bool false) => g ρ S1 | .d (.bool true) => some (.d (.bool true), S1) | _ => none := rfl
theorem w_eNot {f : Ef} : eNot f ρ S = bnd (f ρ S) fun a S1 => match a with | .d (.bool c) => some (.d (.bool !c), S1) | _ => none := rfl
theorem w_eNeg {f : Ef} : eNeg f ρ S = bnd (f ρ S) fun a S1 => match a with | .d (.int i) => some (.d (.int (-i)), S1) | _ => none := rfl
theorem w_chain {g g' : Val → Val → Sto → Option (Val × Sto)} {fa fb fc : Ef} : eChain g g' fa fb fc ρ S = bnd (fa ρ S) fun a S1 => bnd (fb ρ S1) fun b S2 => bnd (g a b S2) fun r S3 => match r with
  | .d (.bool true) => bnd (fc ρ S3) fun c S4 => g' b c S4
  | .d (.bool false) => some (.d (.bool false), S3)
  | _ => none := rfl
theorem w_mt {g : Val → List Val → Sto → Option (Val × Sto)} {fo : Ef} {fs : Af} : eMt g fo fs ρ S = bnd (fo ρ S) fun o S1 => if (viewL S1 o).isSome = true then bnd (fs ρ S1) fun as S2 => g o as S2 else none := rfl
theorem q_append {k : Nat} {xs : List Val} {y : Val} (h : S[k]? = some (.lst xs)) (hz : xs.length < sizeLine) : gAppend (.c k) [y] S = some (.d .none, S.set k (.lst (xs ++ [y]))) := by
  simp only [gAppend, h, if_pos hz]
theorem q_insert {k : Nat} {xs : List Val} {y : Val} (h : S[k]? = some (.lst xs)) (hz : xs.length < sizeLine ∧ 0 ≤ i ∧ i < 2 ^ 63) : gInsert (.c k) [.d (.int i), y] S = some (.d .none, S.set k (.lst (xs.take i.toNat ++ [y] ++ xs.drop i.toNat))) := by
  simp only [gInsert, h, if_pos hz]
end
end QL

namespace QL
open PySem PySem.Spec PyProof.Rows L2
/-! ### the box of draws -/
def boxC (a b c : Int) : Cell := .lst [.d (.int a), .d (.int b), .d (.int c)]
def Bx (N : Nat) (S : Sto) (k : Nat) : Prop := ∃ a b c : Int, S[k]? = some (boxC a b c) ∧ 0 ≤ a ∧ 0 ≤ b ∧ b < 2147483648 ∧ 0 ≤ c ∧ c ≤ N
/-- same length, the box alone may differ -/
structure Dr (k N : Nat) (S S' : Sto) : Prop where
  len : S'.length = S.length
  same : ∀ j, j ≠ k → S'[j]? = S[j]?
  box : Bx N S' k
/-- the same, and new cells behind -/
structure Gr (k N : Nat) (S S' : Sto) : Prop where
  len : S.length ≤ S'.length
  same : ∀ j, j < S.length → j ≠ k → S'[j]? = S[j]?
  box : Bx N S' k
structure Ex (S S' : Sto) : Prop where
  len : S.length ≤ S'.length
  same : ∀ j, j < S.length → S'[j]? = S[j]?
section
variable {k N M : Nat} {S S1 S2 S' : Sto}
theorem Bx.lt (h : Bx N S k) : k < S.length := by
  obtain ⟨a, b, c, h, _⟩ := h
  exact (List.getElem?_eq_some_iff.mp h).1
theorem Bx.mono (h : Bx N S k) (e : N ≤ M) : Bx M S k := by
  obtain ⟨a, b, c, h, h1, h2, h3, h4, h5⟩ := h
  exact ⟨a, b, c, h, h1, h2, h3, h4, by omega⟩
theorem Dr.gr (h : Dr k N S S') : Gr k N S S' := ⟨Nat.le_of_eq h.len.symm, fun j _ hj => h.same j hj, h.box⟩
theorem Dr.refl (h : Bx N S k) : Dr k N S S := ⟨rfl, fun _ _ => rfl, h⟩
theorem Gr.refl (h : Bx N S k) : Gr k N S S := ⟨Nat.le_refl _, fun _ _ _ => rfl, h⟩
theorem Dr.trans (h : Dr k N S S1) (g : Dr k M S1 S2) : Dr k M S S2 := ⟨g.len.trans h.len, fun j hj => (g.same j hj).trans (h.same j hj), g.box⟩
theorem Gr.trans (h : Gr k N S S1) (g : Gr k M S1 S2) : Gr k M S S2 := ⟨Nat.le_trans h.len g.len, fun j hl hj => (g.same j (Nat.lt_of_lt_of_le hl h.len) hj).trans (h.same j hl hj), g.box⟩
theorem Gr.dr (h : Gr k N S S1) (g : Dr k M S1 S2) : Gr k M S S2 := h.trans g.gr
theorem Gr.mono (h : Gr k N S S') (e : N ≤ M) : Gr k M S S' := ⟨h.len, h.same, h.box.mono e⟩
theorem Dr.mono (h : Dr k N S S') (e : N ≤ M) : Dr k M S S' := ⟨h.len, h.same, h.box.mono e⟩
theorem Ex.refl (S : Sto) : Ex S S := ⟨Nat.le_refl _, fun _ _ => rfl⟩
theorem Ex.trans (h : Ex S S1) (g : Ex S1 S2) : Ex S S2 := ⟨Nat.le_trans h.len g.len, fun j hl => (g.same j (Nat.lt_of_lt_of_le hl h.len)).trans (h.same j hl)⟩
theorem Ex.new (S : Sto) (c : Cell) : Ex S (S ++ [c]) := ⟨by simp, fun j hj => List.getElem?_append_left hj⟩
theorem Ex.bx (h : Ex S S') (b : Bx N S k) : Bx N S' k := by
  have hl := b.lt
  obtain ⟨x, y, z, e, r⟩ := b
  exact ⟨x, y, z, (h.same k hl).trans e, r⟩
theorem Gr.ex (h : Gr k N S S1) (g : Ex S1 S2) : Gr k N S S2 := ⟨Nat.le_trans h.len g.len, fun j hl hj => (g.same j (Nat.lt_of_lt_of_le hl h.len)).trans (h.same j hl hj), g.bx h.box⟩
/-- a change of a cell that is new -/
theorem Gr.setN (h : Gr k N S S1) {j : Nat} (hj : S.length ≤ j) (hb : k < S.length) (c : Cell) : Gr k N S (S1.set j c) := by
  refine ⟨by rw [List.length_set]; exact h.len, fun i hi hk => ?_, ?_⟩
  · rw [List.getElem?_set_ne (by omega)]
    exact h.same i hi hk
  · obtain ⟨x, y, z, e, r⟩ := h.box
    exact ⟨x, y, z, by rw [List.getElem?_set_ne (by omega)]; exact e, r⟩
theorem Ex.setN (h : Ex S S1) {j : Nat} (hj : S.length ≤ j) (c : Cell) : Ex S (S1.set j c) :=
  ⟨by rw [List.length_set]; exact h.len, fun i hi => by rw [List.getElem?_set_ne (by omega)]; exact h.same i hi⟩
theorem get_new (S : Sto) (c : Cell) : (S ++ [c])[S.length]? = some c := by simp
theorem get_set {j : Nat} {c c0 : Cell} (h : S[j]? = some c0) : (S.set j c)[j]? = some c := by
  rw [List.getElem?_set]
  simp only [if_true, (List.getElem?_eq_some_iff.mp h).1]
theorem Dr.get {j : Nat} {c : Cell} (h : Dr k N S S') (hj : j ≠ k) (e : S[j]? = some c) : S'[j]? = some c := (h.same j hj).trans e
theorem Dr.set (hb : Bx M S k) {a b c : Int} (h1 : 0 ≤ a) (h2 : 0 ≤ b) (h3 : b < 2147483648) (h4 : 0 ≤ c) (h5 : c ≤ N) : Dr k N S (S.set k (boxC a b c)) := by
  obtain ⟨x, y, z, e, _⟩ := hb
  exact ⟨List.length_set, fun j hj => List.getElem?_set_ne (Ne.symm hj), a, b, c, get_set e, h1, h2, h3, h4, h5⟩
theorem clv_mem {xs : List Val} {n : Nat} (h : ∃ ds : List PyData, xs = ds.map .d) : ∀ x ∈ xs, ClV n x := by
  obtain ⟨ds, rfl⟩ := h
  intro x hx
  obtain ⟨d, _, rfl⟩ := List.mem_map.mp hx
  trivial
theorem Gr.cut (h : Gr k N S S1) (hk : k < S.length) : Dr k N S (S1.take S.length) := by
  refine ⟨by rw [List.length_take]; have := h.len; omega, fun j hj => ?_, ?_⟩
  · by_cases hl : j < S.length
    · rw [List.getElem?_take_of_lt hl]
      exact h.same j hl hj
    · rw [List.getElem?_eq_none (by rw [List.length_take]; omega), List.getElem?_eq_none (by omega)]
  · obtain ⟨x, y, z, e, r⟩ := h.box
    exact ⟨x, y, z, by rw [List.getElem?_take_of_lt hk]; exact e, r⟩
theorem Dr.keep (h : Dr k N S S') (x : PyData) : Keep S S' (.d x) := by
  refine ⟨Nat.le_of_eq h.len.symm, fun j c e => ?_, trivial⟩
  by_cases hj : j = k
  · subst hj
    right
    obtain ⟨a, b, d, e2, _⟩ := h.box
    rw [e2] at e
    cases e
    exact clv_mem ⟨[.int a, .int b, .int d], rfl⟩
  · left
    rw [← h.same j hj]
    exact e
theorem Ex.cut (h : Ex S S1) : S1.take S.length = S := by
  refine List.ext_getElem? fun j => ?_
  by_cases hl : j < S.length
  · rw [List.getElem?_take_of_lt hl]
    exact h.same j hl
  · rw [List.getElem?_eq_none (by rw [List.length_take]; omega), List.getElem?_eq_none (by omega)]
/-- a def that draws and gives data -/
theorem w_fnD {nN : Nat} {fb : Sf} {as : List Val} {R : PyData → Prop} (hb : Bx M S k) (h : wpS (fb (initR nN as) S) fun fl _ S1 => ∃ x, (fl = .rt (.d x) ∨ (fl = .nx ∧ x = .none)) ∧ Gr k N S S1 ∧ R x) : wp (φof nN 0 fb as S) fun r S' => ∃ x, r = .d x ∧ Dr k N S S' ∧ R x := by
  refine w_fn (wpS_mono h fun fl ρ S1 ⟨x, hf, g, hr⟩ => ?_)
  have g := g
  have hc : Dr k N S (S1.take S.length) := g.cut hb.lt
  refine ⟨.d x, S1.take S.length, S1.drop S.length, ?_, (List.take_append_drop _ _).symm, hc.len, hc.keep x, x, rfl, hc, hr⟩
  rcases hf with q | ⟨q1, q2⟩
  · exact .inl q
  · exact .inr ⟨q1, by rw [q2]⟩
/-- a def that draws nothing and gives data -/
theorem w_fnP {nN : Nat} {fb : Sf} {as : List Val} {R : PyData → Prop} (h : wpS (fb (initR nN as) S) fun fl _ S1 => ∃ x, (fl = .rt (.d x) ∨ (fl = .nx ∧ x = .none)) ∧ Ex S S1 ∧ R x) : wp (φof nN 0 fb as S) fun r S' => ∃ x, r = .d x ∧ S' = S ∧ R x := by
  refine w_fn (wpS_mono h fun fl ρ S1 ⟨x, hf, g, hr⟩ => ?_)
  refine ⟨.d x, S, S1.drop S.length, ?_, by rw [← g.cut, List.length_take, Nat.min_eq_left g.len]; exact (List.take_append_drop _ _).symm, rfl, Keep.same S x, x, rfl, rfl, hr⟩
  rcases hf with q | ⟨q1, q2⟩
  · exact .inl q
  · exact .inr ⟨q1, by rw [q2]⟩
theorem w_fnE {nN : Nat} {fb : Sf} {as : List Val} {x : PyData} (h : wpS (fb (initR nN as) S) fun fl _ S1 => (fl = .rt (.d x) ∨ (fl = .nx ∧ x = .none)) ∧ Ex S S1) : φof nN 0 fb as S = some (.d x, S) := by
  obtain ⟨r, S', e, y, rfl, rfl, rfl⟩ := w_fnP (R := fun y => y = x) (wpS_mono h fun fl ρ S1 ⟨h1, h2⟩ => ⟨x, h1, h2, rfl⟩)
  exact e
/-- a def that gives a new list -/
theorem w_fnC {nN : Nat} {fb : Sf} {as : List Val} {R : List PyData → Prop} (h : wpS (fb (initR nN as) S) fun fl _ S1 => fl = .rt (.c S.length) ∧ ∃ ds, S1 = S ++ [.lst (ds.map .d)] ∧ R ds) : wp (φof nN 1 fb as S) fun r S' => r = .c S.length ∧ ∃ ds, S' = S ++ [.lst (ds.map .d)] ∧ R ds := by
  refine w_fn (wpS_mono h fun fl ρ S1 ⟨hf, ds, e, hr⟩ => ?_)
  refine ⟨_, S1, [], .inl hf, by simp, by rw [e]; simp, ⟨by rw [e]; simp, fun j c q => ?_, by rw [e]; show S.length < _; simp⟩, rfl, ds, e, hr⟩
  rw [e] at q
  by_cases hj : j < S.length
  · rw [List.getElem?_append_left hj] at q
    exact .inl q
  · rw [List.getElem?_append_right (by omega)] at q
    have : c = .lst (ds.map .d) := by
      cases hz : j - S.length with
      | zero => rw [hz] at q; cases q; rfl
      | succ n => rw [hz] at q; cases q
    subst this
    exact .inr (clv_mem ⟨ds, rfl⟩)

/-! ### operators, with what they ask -/
variable {md : Md} {i j : Int} {Q : Val → Sto → Prop}
theorem w_mulI : wp (gMul md (.d (.int i)) (.d (.int j)) S) Q ↔ ((-18446744073709551616 < i ∧ i < 18446744073709551616) ∨ (-18446744073709551616 < j ∧ j < 18446744073709551616)) ∧ Q (.d (.int (i * j))) S := by
  by_cases h : (-(2 ^ 64) < i ∧ i < 2 ^ 64) ∨ (-(2 ^ 64) < j ∧ j < 2 ^ 64)
  · rw [q_mulI h, wp_some]
    exact ⟨fun q => ⟨h, q⟩, fun q => q.2⟩
  · refine nn ?_ fun q => h q.1
    rintro ⟨a, S1, e, _⟩
    unfold gMul alt2 gMulI gI at e
    simp only [decide_eq_false h] at e
    cases e
theorem w_modI : wp (gMod (.d (.int i)) (.d (.int j)) S) Q ↔ 0 < j ∧ Q (.d (.int (i % j))) S := by
  by_cases h : 0 < j
  · rw [q_mod h, wp_some]
    exact ⟨fun q => ⟨h, q⟩, fun q => q.2⟩
  · refine nn ?_ fun q => h q.1
    rintro ⟨a, S1, e, _⟩
    unfold gMod gI at e
    simp only [decide_eq_false h] at e
    cases e
theorem w_divI : wp (gDiv (.d (.int i)) (.d (.int j)) S) Q ↔ (0 < j ∧ j < 1073741824) ∧ Q (.d (.int (i / j))) S := by
  by_cases h : 0 < j ∧ j < 1073741824
  · rw [q_div h, wp_some]
    exact ⟨fun q => ⟨h, q⟩, fun q => q.2⟩
  · refine nn ?_ fun q => h q.1
    rintro ⟨a, S1, e, _⟩
    unfold gDiv gI at e
    simp only [decide_eq_false h] at e
    cases e
theorem w_divmod : wp (gDivmod [.d (.int i), .d (.int j)] S) Q ↔ (0 < j ∧ j < 1073741824) ∧ Q (.d (.tuple [.int (i / j), .int (i % j)])) S := by
  by_cases h : 0 < j ∧ j < 1073741824
  · rw [q_divmod h, wp_some]
    exact ⟨fun q => ⟨h, q⟩, fun q => q.2⟩
  · refine nn ?_ fun q => h q.1
    rintro ⟨a, S1, e, _⟩
    simp only [gDivmod, if_neg h] at e
    cases e
theorem w_pow : wp (gPow (.d (.int i)) (.d (.int j)) S) Q ↔ (0 ≤ j ∧ j ≤ 1000000 ∧ i.natAbs < 18446744073709551616) ∧ Q (.d (.int (i ^ j.toNat))) S := by
  by_cases h : 0 ≤ j ∧ j ≤ 1000000 ∧ i.natAbs < 2 ^ 64
  · rw [q_pow h, wp_some]
    exact ⟨fun q => ⟨h, q⟩, fun q => q.2⟩
  · refine nn ?_ fun q => h q.1
    rintro ⟨a, S1, e, _⟩
    unfold gPow gI at e
    simp only [decide_eq_false h] at e
    cases e
theorem wp_ite {α : Type} {p : Prop} [Decidable p] {x y : Option (α × Sto)} {Q : α → Sto → Prop} : wp (if p then x else y) Q ↔ (p → wp x Q) ∧ (¬ p → wp y Q) := by
  by_cases h : p <;> simp [h]
theorem w_at {xs : List Val} : wp ((atI xs i).map fun x => (x, S)) Q ↔ ∃ x, atI xs i = some x ∧ Q x S := by
  cases h : atI xs i with
  | none =>
    refine nn wp_none ?_
    rintro ⟨_, e, _⟩
    cases e
  | some x =>
    show wp (some (x, S)) Q ↔ _
    rw [wp_some]
    refine ⟨fun q => ⟨x, rfl, q⟩, ?_⟩
    rintro ⟨_, e, q⟩
    cases e
    exact q
theorem atI_map {α β : Type} {f : α → β} {xs : List α} : atI (xs.map f) i = (atI xs i).map f := by
  unfold atI ixN
  rw [List.length_map]
  split
  · split
    · show (xs.map f)[_]? = _
      rw [List.getElem?_map]
      rfl
    · rfl
  · split
    · show (xs.map f)[_]? = _
      rw [List.getElem?_map]
      rfl
    · rfl
theorem w_atD {ds : List PyData} : wp ((atI (ds.map Val.d) i).map fun x => (x, S)) Q ↔ ∃ x, atI ds i = some x ∧ Q (.d x) S := by
  rw [w_at, atI_map]
  constructor
  · rintro ⟨_, e, q⟩
    cases h : atI ds i with
    | none => rw [h] at e; cases e
    | some x =>
      rw [h] at e
      cases e
      exact ⟨x, rfl, q⟩
  · rintro ⟨x, e, q⟩
    exact ⟨_, by rw [e]; rfl, q⟩
theorem at_0 {α : Type} {a : α} {r : List α} : atI (a :: r) 0 = some a := by
  unfold atI ixN
  rw [if_pos (by decide), if_pos (by simp only [List.length_cons]; omega)]
  rfl
theorem at_1 {α : Type} {a b : α} {r : List α} : atI (a :: b :: r) 1 = some b := by
  unfold atI ixN
  rw [if_pos (by decide), if_pos (by simp only [List.length_cons]; omega)]
  rfl
theorem at_2 {α : Type} {a b c : α} {r : List α} : atI (a :: b :: c :: r) 2 = some c := by
  unfold atI ixN
  rw [if_pos (by decide), if_pos (by simp only [List.length_cons]; omega)]
  rfl
theorem at_all {α : Type} {xs : List α} {P : α → Prop} {i : Int} (h0 : 0 ≤ i) (h : i < xs.length) (hp : ∀ x ∈ xs, P x) : ∃ x, atI xs i = some x ∧ P x := by
  refine ⟨xs[i.toNat]'(by omega), ?_, hp _ (List.getElem_mem _)⟩
  unfold atI ixN
  rw [if_pos h0, if_pos h]
  exact List.getElem?_eq_getElem (by omega)
theorem at_in {α : Type} {xs : List α} {i : Int} (h0 : 0 ≤ i) (h : i < xs.length) : atI xs i = some (xs[i.toNat]'(by omega)) := by
  unfold atI ixN
  rw [if_pos h0, if_pos h]
  exact List.getElem?_eq_getElem (by omega)
theorem set_ix {k : Nat} {xs : List Val} {n : Nat} {v : Val} (h : S[k]? = some (.lst xs)) (hn : n < xs.length) : setIx (.c k) (.d (.int n)) v S = some (S.set k (.lst (xs.set n v))) := by
  refine q_setC h ?_
  unfold ixN
  rw [if_pos (by omega), if_pos (by omega)]
  rfl
theorem set_0 {k : Nat} {a v : Val} {r : List Val} (h : S[k]? = some (.lst (a :: r))) : setIx (.c k) (.d (.int 0)) v S = some (S.set k (.lst (v :: r))) := set_ix (n := 0) h (by simp)
theorem set_1 {k : Nat} {a b v : Val} {r : List Val} (h : S[k]? = some (.lst (a :: b :: r))) : setIx (.c k) (.d (.int 1)) v S = some (S.set k (.lst (a :: v :: r))) := set_ix (n := 1) h (by simp)
theorem set_2 {k : Nat} {a b c v : Val} {r : List Val} (h : S[k]? = some (.lst (a :: b :: c :: r))) : setIx (.c k) (.d (.int 2)) v S = some (S.set k (.lst (a :: b :: v :: r))) := set_ix (n := 2) h (by simp)
theorem get_setX {j : Nat} {c : Cell} (h : ∃ c0, S[j]? = some c0) : (S.set j c)[j]? = some c := by
  obtain ⟨c0, h⟩ := h
  exact get_set h
theorem q_gTu2 {r : Gs} {x y : PyData} {ρ : Rho} : gTu 2 r (.d (.tuple [x, y])) ρ S = r [.d x, .d y] ρ S := rfl
theorem q_gTu3 {r : Gs} {x y z : PyData} {ρ : Rho} : gTu 3 r (.d (.tuple [x, y, z])) ρ S = r [.d x, .d y, .d z] ρ S := rfl
theorem q_mkT2 {x y : PyData} : mkT [.d x, .d y] S = some (.d (.tuple [x, y]), S) := rfl
theorem q_mkT3 {x y z : PyData} : mkT [.d x, .d y, .d z] S = some (.d (.tuple [x, y, z]), S) := rfl
theorem q_mkT1 {x : PyData} : mkT [.d x] S = some (.d (.tuple [x]), S) := rfl
theorem q_mkT0 : mkT [] S = some (.d (.tuple []), S) := rfl
theorem q_alD0 : alloc .D [] S = some (.d (.list []), S) := rfl
theorem q_alD1 {x : PyData} : alloc .D [.d x] S = some (.d (.list [x]), S) := rfl
theorem q_alD2 {x y : PyData} : alloc .D [.d x, .d y] S = some (.d (.list [x, y]), S) := rfl
theorem q_alD3 {x y z : PyData} : alloc .D [.d x, .d y, .d z] S = some (.d (.list [x, y, z]), S) := rfl
theorem q_alD4 {x y z u : PyData} : alloc .D [.d x, .d y, .d z, .d u] S = some (.d (.list [x, y, z, u]), S) := rfl
theorem q_tst {α : Type} {b : Bool} {f : Bool → Option α} {g : Val → Option α} : (match Val.d (.bool b) with | .d (.bool b) => f b | x => g x) = f b := rfl
end
end QL

namespace QL
open PySem PySem.Spec PyProof.Rows L2
section
variable {S S1 : Sto} {ρ : Rho} {fs : Af} {f : Ef} {Q : List PyData → Sto → Prop} {md : Md} {R : Val → Sto → Prop}
def kR1 (Q : List PyData → Sto → Prop) : List Val → Sto → Prop
  | [.d (.int j)], S1 => (-4611686018427387904 ≤ j ∧ j < 4611686018427387904) ∧ Q (rngD 0 j.toNat) S1
  | _, _ => False
def kR2 (Q : List PyData → Sto → Prop) : List Val → Sto → Prop
  | [.d (.int i), .d (.int j)], S1 => (-4611686018427387904 ≤ i ∧ i < 4611686018427387904) ∧ (-4611686018427387904 ≤ j ∧ j < 4611686018427387904) ∧ Q (rngD i (j - i).toNat) S1
  | _, _ => False
def kEn (Q : List PyData → Sto → Prop) : List Val → Sto → Prop
  | [.d (.list ds)], S1 => Q (enumD 0 ds) S1
  | [.d (.tuple ds)], S1 => Q (enumD 0 ds) S1
  | _, _ => False
def kZp (Q : List PyData → Sto → Prop) : List Val → Sto → Prop
  | [.d (.list ds), .d (.list es)], S1 => Q (zipD ds es) S1
  | [.d (.tuple ds), .d (.tuple es)], S1 => Q (zipD ds es) S1
  | _, _ => False
theorem kR1_eq {j : Int} : kR1 Q [.d (.int j)] S = ((-4611686018427387904 ≤ j ∧ j < 4611686018427387904) ∧ Q (rngD 0 j.toNat) S) := rfl
theorem kR2_eq {i j : Int} : kR2 Q [.d (.int i), .d (.int j)] S = ((-4611686018427387904 ≤ i ∧ i < 4611686018427387904) ∧ (-4611686018427387904 ≤ j ∧ j < 4611686018427387904) ∧ Q (rngD i (j - i).toNat) S) := rfl
theorem kEn_T {ds : List PyData} : kEn Q [.d (.tuple ds)] S = Q (enumD 0 ds) S := rfl
theorem kEn_eq {ds : List PyData} : kEn Q [.d (.list ds)] S = Q (enumD 0 ds) S := rfl
theorem kZp_T {ds es : List PyData} : kZp Q [.d (.tuple ds), .d (.tuple es)] S = Q (zipD ds es) S := rfl
theorem kZp_eq {ds es : List PyData} : kZp Q [.d (.list ds), .d (.list es)] S = Q (zipD ds es) S := rfl
theorem x_iR1 : wp (iR1 fs ρ S) Q ↔ wp (fs ρ S) (kR1 Q) := by
  constructor
  · rintro ⟨ds, S1, e, q⟩
    unfold iR1 at e
    split at e
    · rename_i j S2 h
      split at e
      · rename_i hj
        cases e
        exact ⟨_, _, h, of_decide_eq_true hj, q⟩
      · cases e
    · cases e
  · refine fun h => w_iR1 (wp_mono h fun as S1 q => ?_)
    unfold kR1 at q
    split at q
    · exact ⟨_, rfl, q.1, q.2⟩
    · exact q.elim
theorem x_iR2 : wp (iR2 fs ρ S) Q ↔ wp (fs ρ S) (kR2 Q) := by
  constructor
  · rintro ⟨ds, S1, e, q⟩
    unfold iR2 at e
    split at e
    · rename_i i j S2 h
      split at e
      · rename_i hj
        cases e
        exact ⟨_, _, h, of_decide_eq_true hj.1, of_decide_eq_true hj.2, q⟩
      · cases e
    · cases e
  · refine fun h => w_iR2 (wp_mono h fun as S1 q => ?_)
    unfold kR2 at q
    split at q
    · exact ⟨_, _, rfl, q.1, q.2.1, q.2.2⟩
    · exact q.elim
theorem x_iEn : wp (iEn fs ρ S) Q ↔ wp (fs ρ S) (kEn Q) := by
  constructor
  · rintro ⟨ds, S1, e, q⟩
    unfold iEn at e
    split at e
    · rename_i ds S2 h
      cases e
      exact ⟨_, _, h, q⟩
    · rename_i ds S2 h
      cases e
      exact ⟨_, _, h, q⟩
    · cases e
  · rintro ⟨as, S1, e, q⟩
    unfold kEn at q
    split at q
    · exact ⟨_, _, by unfold iEn; rw [e], q⟩
    · exact ⟨_, _, by unfold iEn; rw [e], q⟩
    · exact q.elim
theorem x_iZp : wp (iZp fs ρ S) Q ↔ wp (fs ρ S) (kZp Q) := by
  constructor
  · rintro ⟨ds, S1, e, q⟩
    unfold iZp at e
    split at e
    · rename_i ds es S2 h
      cases e
      exact ⟨_, _, h, q⟩
    · rename_i ds es S2 h
      cases e
      exact ⟨_, _, h, q⟩
    · cases e
  · rintro ⟨as, S1, e, q⟩
    unfold kZp at q
    split at q
    · exact ⟨_, _, by unfold iZp; rw [e], q⟩
    · exact ⟨_, _, by unfold iZp; rw [e], q⟩
    · exact q.elim
theorem x_iSq : wp (iSq f ρ S) Q ↔ wp (f ρ S) fun a S1 => ∃ ds, itemsD a = some ds ∧ Q ds S1 := by
  constructor
  · rintro ⟨ds, S1, e, q⟩
    unfold iSq at e
    split at e
    · rename_i a S2 h
      split at e
      · rename_i ds' h2
        cases e
        exact ⟨_, _, h, _, h2, q⟩
      · cases e
    · cases e
  · exact fun h => w_iSq h
theorem it_L {ds : List PyData} : itemsD (.d (.list ds)) = some ds := rfl
theorem it_T {ds : List PyData} : itemsD (.d (.tuple ds)) = some ds := rfl
theorem rng_len {lo : Int} {n : Nat} : (rngD lo n).length = n := by unfold rngD; simp
theorem rng_get {lo : Int} {n i : Nat} {d : PyData} (h : (rngD lo n)[i]? = some d) : i < n ∧ d = .int (lo + i) := by
  have hl := (List.getElem?_eq_some_iff.mp h).1
  rw [rng_len] at hl
  unfold rngD at h
  rw [List.getElem?_map, List.getElem?_range hl] at h
  cases h
  exact ⟨hl, rfl⟩
theorem en_get {ds : List PyData} {i n : Nat} {d : PyData} (h : (enumD n ds)[i]? = some d) : ∃ x, ds[i]? = some x ∧ d = .tuple [.int ((n + i : Nat) : Int), x] := by
  have hl := (List.getElem?_eq_some_iff.mp h).1
  rw [enumD_len] at hl
  refine ⟨ds[i], List.getElem?_eq_getElem hl, ?_⟩
  have := enumD_get n ds i ds[i] (List.getElem?_eq_getElem hl)
  rw [h] at this
  cases this
  rfl
theorem zp_get {ds es : List PyData} {i : Nat} {d : PyData} (h : (zipD ds es)[i]? = some d) : ∃ x y, ds[i]? = some x ∧ es[i]? = some y ∧ d = .tuple [x, y] := by
  have hl := (List.getElem?_eq_some_iff.mp h).1
  rw [zipD_len] at hl
  have h1 : ds[i]? = some (ds[i]'(by omega)) := List.getElem?_eq_getElem (by omega)
  have h2 : es[i]? = some (es[i]'(by omega)) := List.getElem?_eq_getElem (by omega)
  refine ⟨_, _, h1, h2, ?_⟩
  have := zipD_get ds es i _ _ h1 h2
  rw [h] at this
  cases this
  rfl
theorem map_get {α β : Type} {f : α → β} {xs : List α} {i : Nat} {y : β} (h : (xs.map f)[i]? = some y) : ∃ x, xs[i]? = some x ∧ y = f x := by
  rw [List.getElem?_map] at h
  cases q : xs[i]? with
  | none => rw [q] at h; cases h
  | some x => rw [q] at h; cases h; exact ⟨x, rfl, rfl⟩
def kPar (i j : Nat) (ρ : Rho) (Q : Fl → Rho → Sto → Prop) : List Val → Sto → Prop
  | [a, b], S => Q .nx ((ρ.set i (some a)).set j (some b)) S
  | _, _ => False
theorem kPar_eq {i j : Nat} {Q : Fl → Rho → Sto → Prop} {a b : Val} : kPar i j ρ Q [a, b] S = Q .nx ((ρ.set i (some a)).set j (some b)) S := rfl
theorem x_par {i j : Nat} {af : Af} {Q : Fl → Rho → Sto → Prop} : wpS (sPar i j af ρ S) Q ↔ wp (af ρ S) (kPar i j ρ Q) := by
  rw [w_par]
  constructor
  · intro h
    refine wp_mono h fun vs S1 z => ?_
    obtain ⟨a, b, rfl, q⟩ := z
    exact q
  · intro h
    refine wp_mono h fun vs S1 q => ?_
    unfold kPar at q
    split at q
    · exact ⟨_, _, rfl, q⟩
    · exact q.elim
/-- a cut between two statements -/
theorem w_cut (M : Rho → Sto → Prop) {f g : Sf} {Q : Fl → Rho → Sto → Prop} (h : wpS (f ρ S) fun fl ρ1 S1 => fl = .nx ∧ M ρ1 S1) (q : ∀ ρ1 S1, M ρ1 S1 → wpS (g ρ1 S1) Q) : wpS (sSeq f g ρ S) Q := by
  refine w_seq.mpr (wpS_mono h fun fl ρ1 S1 z => ?_)
  obtain ⟨rfl, m⟩ := z
  exact q ρ1 S1 m
def kFor (G : Gf) (f : Sf) (ds : List PyData) (Q : Fl → Rho → Sto → Prop) : Fl → Rho → Sto → Prop
  | .nx, ρ, S => wpS (forL G f ds ρ S) Q
  | .ct, ρ, S => wpS (forL G f ds ρ S) Q
  | .bk, ρ, S => Q .nx ρ S
  | .rt v, ρ, S => Q (.rt v) ρ S
section
variable {G : Gf} {g : Sf} {ds : List PyData} {d : PyData} {Q : Fl → Rho → Sto → Prop} {v : Val}
theorem kFor_nx : kFor G g ds Q .nx ρ S = wpS (forL G g ds ρ S) Q := rfl
theorem kFor_ct : kFor G g ds Q .ct ρ S = wpS (forL G g ds ρ S) Q := rfl
theorem kFor_bk : kFor G g ds Q .bk ρ S = Q .nx ρ S := rfl
theorem kFor_rt : kFor G g ds Q (.rt v) ρ S = Q (.rt v) ρ S := rfl
theorem w_forN : wpS (forL G g [] ρ S) Q ↔ Q .nx ρ S := wpS_some
theorem w_forC : wpS (forL G g (d :: ds) ρ S) Q ↔ wp (G (.d d) ρ S) fun ρ1 S1 => wpS (g ρ1 S1) (kFor G g ds Q) := by
  rw [forL]
  cases h : G (.d d) ρ S with
  | none => exact nn wpS_none wp_none
  | some p =>
    obtain ⟨ρ1, S1⟩ := p
    rw [wp_some]
    simp only []
    cases h2 : g ρ1 S1 with
    | none => exact nn wpS_none wpS_none
    | some q =>
      obtain ⟨fl, ρ2, S2⟩ := q
      rw [wpS_some]
      cases fl with
      | nx => exact Iff.rfl
      | ct => exact Iff.rfl
      | bk => exact wpS_some
      | rt v => exact wpS_some
end
def bif2 {α : Type} (r : Val) (x y : Option α) : Option α := match r with
  | .d (.bool true) => x
  | .d (.bool false) => y
  | _ => none
theorem bif2_d {α : Type} {b : Bool} {x y : Option α} : bif2 (.d (.bool b)) x y = if b = true then x else y := by
  cases b <;> rfl
theorem x_eAnd {f g : Ef} : eAnd f g ρ S = bnd (f ρ S) fun a S1 => bif2 a (g ρ S1) (some (.d (.bool false), S1)) := rfl
theorem x_eOr {f g : Ef} : eOr f g ρ S = bnd (f ρ S) fun a S1 => bif2 a (some (.d (.bool true), S1)) (g ρ S1) := by
  unfold eOr
  congr
  funext a S1
  unfold bif2
  split <;> first | rfl | skip
  rename_i h1 h2
  split <;> first | rfl | (exact absurd rfl h1) | (exact absurd rfl h2) | skip
theorem x_chain {g g' : Val → Val → Sto → Option (Val × Sto)} {fa fb fc : Ef} : eChain g g' fa fb fc ρ S = bnd (fa ρ S) fun a S1 => bnd (fb ρ S1) fun b S2 => bnd (g a b S2) fun r S3 => bif2 r (bnd (fc ρ S3) fun c S4 => g' b c S4) (some (.d (.bool false), S3)) := rfl
/-! ### slices -/
section
variable {α : Type} {xs : List α} {n m : Int}
theorem cut_to (h : 0 ≤ n) : cutG xs none (some n) = xs.take n.toNat := by
  unfold cutG HT.sIx
  simp only [if_neg (show ¬ n < 0 by omega), Nat.sub_zero, List.drop_zero]
  rw [List.take_eq_take_iff]
  omega
theorem cut_from (h : 0 ≤ n) : cutG xs (some n) none = xs.drop n.toNat := by
  unfold cutG HT.sIx
  simp only [if_neg (show ¬ n < 0 by omega)]
  by_cases hl : n.toNat ≤ xs.length
  · rw [Nat.min_eq_left hl, List.take_of_length_le (by rw [List.length_drop]; omega)]
  · rw [Nat.min_eq_right (by omega), List.drop_eq_nil_of_le (Nat.le_refl _), List.drop_eq_nil_of_le (show xs.length ≤ n.toNat by omega), List.take_nil]
theorem cut_all : cutG xs none none = xs := by
  unfold cutG HT.sIx
  simp
theorem cut_ft (h : 0 ≤ n) (h2 : 0 ≤ m) : cutG xs (some n) (some m) = (xs.take m.toNat).drop n.toNat := by
  unfold cutG HT.sIx
  simp only [if_neg (show ¬ n < 0 by omega), if_neg (show ¬ m < 0 by omega)]
  rw [List.drop_take]
  by_cases hl : n.toNat ≤ xs.length
  · rw [Nat.min_eq_left hl, List.take_eq_take_iff]
    simp only [List.length_drop]
    omega
  · rw [Nat.min_eq_right (show xs.length ≤ n.toNat by omega), List.drop_eq_nil_of_le (Nat.le_refl _), List.drop_eq_nil_of_le (show xs.length ≤ n.toNat by omega), List.take_nil, List.take_nil]
end
theorem x_slL {ds : List PyData} {lo hi : Option Int} : gSl .D (.d (.list ds)) lo hi S = some (.d (.list (cutG ds lo hi)), S) := q_slL
theorem q_listD {ds : List PyData} : gList .D [.d (.list ds)] S = some (.d (.list ds), S) := by
  unfold gList
  simp only [viewQ, viewL, viewS]
  exact alloc_D ds S
theorem q_listN {ds : List PyData} : gList .N [.d (.list ds)] S = some (.c S.length, S ++ [.lst (ds.map .d)]) := by
  unfold gList
  simp only [viewQ, viewL, viewS, alloc_N]
theorem q_listNT {ds : List PyData} : gList .N [.d (.tuple ds)] S = some (.c S.length, S ++ [.lst (ds.map .d)]) := by
  unfold gList
  simp only [viewQ, alloc_N]
theorem q_listDT {ds : List PyData} : gList .D [.d (.tuple ds)] S = some (.d (.list ds), S) := by
  unfold gList
  simp only [viewQ]
  exact alloc_D ds S
theorem q_tupL {ds : List PyData} : gTuple [.d (.list ds)] S = some (.d (.tuple ds), S) := by
  unfold gTuple
  simp only [viewL, viewS]
  exact mkT_d ds S
theorem q_tupT {ds : List PyData} : gTuple [.d (.tuple ds)] S = some (.d (.tuple ds), S) := rfl
theorem w_frzM {i : Nat} {g : Sf} {Q : Fl → Rho → Sto → Prop} : wpS (sFrz i g ρ S) Q ↔ wp (match ρ[i]? with | some (some a) => frz1 a S | _ => none) fun x S1 => wpS (g (ρ.set i (some (.d x))) S1) Q := by
  cases h : ρ[i]? with
  | none =>
    refine nn ?_ wp_none
    unfold sFrz
    rw [h]
    exact wpS_none
  | some o =>
    cases o with
    | none =>
      refine nn ?_ wp_none
      unfold sFrz
      rw [h]
      exact wpS_none
    | some a => exact w_frz h
theorem q_frzN {ds : List PyData} {k : Nat} (h : S[k]? = some (.lst (ds.map .d))) : frz1 (.c k) S = some (.list ds, S.set k (.frz (.list ds))) := q_frzC h
end
end QL

namespace QL
open PySem PySem.Spec PyProof.Rows L2
/-! ### small plain data -/
structure Tm (n w : Nat) (d : PyData) : Prop where
  plain : d.plain = true
  nodict : d.hasDict = false
  shows : d.showable = true
  short : d.leavesShort 22 = true
  dep : d.depth ≤ n
  wt : d.weight ≤ w
section
variable {n w n' w' : Nat} {d : PyData} {ds : List PyData} {S : Sto}
theorem Tm.mono (h : Tm n w d) (a : n ≤ n') (b : w ≤ w') : Tm n' w' d := ⟨h.plain, h.nodict, h.shows, h.short, Nat.le_trans h.dep a, Nat.le_trans h.wt b⟩
theorem Tm.non : Tm n w .none := ⟨rfl, rfl, rfl, rfl, Nat.zero_le _, Nat.zero_le _⟩
theorem Tm.bl {b : Bool} : Tm n w (.bool b) := ⟨rfl, rfl, rfl, rfl, Nat.zero_le _, Nat.zero_le _⟩
theorem Tm.int {i : Int} (h : i.natAbs < 100000000000000000000) (hw : 70 ≤ w) : Tm n w (.int i) := by
  have h2 : i.natAbs.log2 < 68 := by
    rcases Nat.eq_zero_or_pos i.natAbs with h0 | hp
    · rw [h0]; decide
    · exact (Nat.log2_lt (Nat.ne_of_gt hp)).mpr (Nat.lt_trans h (by decide))
  refine ⟨rfl, rfl, by simp only [PyData.showable, decide_eq_true_eq]; omega, ?_, Nat.zero_le _, ?_⟩
  · simp only [PyData.leavesShort]
    refine decide_eq_true ?_
    rw [PyData.shown_int, PySem.ofString_length]
    have := int_text_length_le10 (a := i) (k := 20) (by decide) (by simpa using h)
    omega
  · simp only [PyData.weight]
    split
    · exact Nat.zero_le _
    · omega
theorem Tm.all (h : ∀ d ∈ ds, Tm n w d) : PyData.plainAll ds = true ∧ PyData.hasDictAll ds = false ∧ PyData.showableAll ds = true ∧ PyData.leavesShortAll 22 ds = true ∧ PyData.depthAll ds ≤ n ∧ PyData.weightAll ds ≤ ds.length * (w + 1) := by
  induction ds with
  | nil => exact ⟨rfl, rfl, rfl, rfl, Nat.zero_le _, Nat.zero_le _⟩
  | cons d r ih =>
    obtain ⟨h1, h2, h3, h4, h5, h6⟩ := ih fun x hx => h x (List.mem_cons_of_mem _ hx)
    have t := h d (List.mem_cons_self ..)
    refine ⟨?_, ?_, ?_, ?_, ?_, ?_⟩
    · simp only [PyData.plainAll, t.plain, h1, Bool.and_self]
    · simp only [PyData.hasDictAll, t.nodict, h2, Bool.or_self]
    · simp only [PyData.showableAll, t.shows, h3, Bool.and_self]
    · simp only [PyData.leavesShortAll, t.short, h4, Bool.and_self]
    · simp only [PyData.depthAll]
      exact Nat.max_le.mpr ⟨t.dep, h5⟩
    · simp only [PyData.weightAll, List.length_cons, Nat.succ_mul]
      have := t.wt
      omega
theorem Tm.lst (h : ∀ d ∈ ds, Tm n w d) (hn : n + 1 ≤ n') (hw : ds.length * (w + 1) ≤ w') : Tm n' w' (.list ds) := by
  obtain ⟨h1, h2, h3, h4, h5, h6⟩ := Tm.all h
  exact ⟨by simpa only [PyData.plain], by simpa only [PyData.hasDict], by simpa only [PyData.showable], by simpa only [PyData.leavesShort], by simp only [PyData.depth]; omega, by simp only [PyData.weight]; omega⟩
theorem Tm.tup (h : ∀ d ∈ ds, Tm n w d) (hn : n + 1 ≤ n') (hw : ds.length * (w + 1) ≤ w') : Tm n' w' (.tuple ds) := by
  obtain ⟨h1, h2, h3, h4, h5, h6⟩ := Tm.all h
  exact ⟨by simpa only [PyData.plain], by simpa only [PyData.hasDict], by simpa only [PyData.showable], by simpa only [PyData.leavesShort], by simp only [PyData.depth]; omega, by simp only [PyData.weight]; omega⟩
theorem Tm.shownLe (h : Tm n w d) (hw : w ≤ 500000) : d.shown.length ≤ sizeLine := by
  have := PyData.shown_le 22 (by decide) d h.short
  have q : (22 + 2) * d.weight ≤ 24 * 500000 := Nat.mul_le_mul (Nat.le_refl _) (Nat.le_trans h.wt hw)
  rw [sizeLine_eq]
  omega
theorem x_strA {x : PyData} (h : Tm 60 500000 x) (hs : isSeq x = true) : gStrA [.d x] S = some (.d (.str x.shown), S) := by
  have e : gStr [.d x] S = none := by
    cases x <;> first | rfl | cases hs
  unfold gStrA altC
  rw [e]
  show gStrD [.d x] S = _
  unfold gStrD
  simp only [look_d]
  rw [if_pos ⟨hs, h.shows, h.nodict, h.dep, h.shownLe (Nat.le_refl _)⟩]
theorem q_eqT {x y : PyData} (h : Tm 60 w x) (h' : Tm 60 w' y) : gEq (.d x) (.d y) S = some (.d (.bool (PyData.eqv x y)), S) := q_eq h.plain h'.plain (by have := h.dep; omega)
theorem q_neT {x y : PyData} (h : Tm 60 w x) (h' : Tm 60 w' y) : gNe (.d x) (.d y) S = some (.d (.bool (!PyData.eqv x y)), S) := q_ne h.plain h'.plain (by have := h.dep; omega)
end
theorem x_inL {n w w' : Nat} {x : PyData} {ds : List PyData} {S : Sto} {neg : Bool} (h : Tm 60 w x) (h' : Tm n w' (.list ds)) : gIn neg (.d x) (.d (.list ds)) S = some (.d (.bool (xor neg (ds.any fun y => PyData.eqv y x))), S) := by
  have h1 : PyData.plainAll ds = true := by simpa only [PyData.plain] using h'.plain
  unfold gIn
  simp only [look_d, inD, h.plain, h1, Bool.and_self, Bool.true_and, decide_eq_true_eq]
  rw [if_pos (by have := h.dep; omega)]
  rfl
theorem x_inT {n w w' : Nat} {x : PyData} {ds : List PyData} {S : Sto} {neg : Bool} (h : Tm 60 w x) (h' : Tm n w' (.tuple ds)) : gIn neg (.d x) (.d (.tuple ds)) S = some (.d (.bool (xor neg (ds.any fun y => PyData.eqv y x))), S) := by
  have h1 : PyData.plainAll ds = true := by simpa only [PyData.plain] using h'.plain
  unfold gIn
  simp only [look_d, inD, h.plain, h1, Bool.and_self, Bool.true_and, decide_eq_true_eq]
  rw [if_pos (by have := h.dep; omega)]
  rfl
mutual
theorem eqv_refl : ∀ d : PyData, d.plain = true → PyData.eqv d d = true
  | .none, _ => rfl
  | .bool b, _ => by simp [PyData.eqv]
  | .int b, _ => by simp [PyData.eqv]
  | .str b, _ => by simp [PyData.eqv]
  | .list xs, h => by
    simp only [PyData.eqv]
    exact eqvAll_refl xs (by simpa only [PyData.plain] using h)
  | .tuple xs, h => by
    simp only [PyData.eqv]
    exact eqvAll_refl xs (by simpa only [PyData.plain] using h)
  | .dict _, h => by simp [PyData.plain] at h
theorem eqvAll_refl : ∀ ds : List PyData, PyData.plainAll ds = true → PyData.eqvAll ds ds = true
  | [], _ => rfl
  | d :: ds, h => by
    have h' : d.plain = true ∧ PyData.plainAll ds = true := by simpa only [PyData.plainAll, Bool.and_eq_true] using h
    simp only [PyData.eqvAll, eqv_refl d h'.1, eqvAll_refl ds h'.2, Bool.and_self]
end
theorem q_mulL1 {x : PyData} {S : Sto} : gMul .D (.d (.list [x])) (.d (.int 2)) S = some (.d (.list [x, x]), S) := by
  unfold gMul alt2 gMulI gI gRep
  simp only [viewS, List.map_cons, List.map_nil, List.length_cons, List.length_nil]
  rw [if_pos (by rw [sizeLine_eq]; decide)]
  exact alloc_D [x, x] S
/-! ### comprehensions without draws; all, any, sum -/
section
variable {S : Sto} {ρ : Rho} {ds : List PyData} {G : Gf} {e : Ef} {R : List Val → Sto → Prop}
theorem w_lcP (g : Nat → PyData → PyData) (h : ∀ i d, ds[i]? = some d → wp (G (.d d) ρ S) fun ρ1 S1 => wp (e ρ1 S1) fun v S2 => v = .d (g i d) ∧ S2 = S) (q : R ((ds.mapIdx g).map .d) S) : wp (lcL G fYes e ρ ds S) R := by
  refine w_lcL (fun i acc S1 => acc = ((ds.take i).mapIdx g).map .d ∧ S1 = S) ⟨by simp, rfl⟩ ?_ ?_
  · rintro i d acc S1 hd ⟨rfl, rfl⟩
    refine wp_mono (h i d hd) fun ρ1 S2 hw => wp_some.mpr ⟨fun _ => wp_mono hw ?_, fun z => nomatch z⟩
    rintro v S3 ⟨rfl, rfl⟩
    refine ⟨?_, rfl⟩
    have hl := (List.getElem?_eq_some_iff.mp hd).1
    rw [List.take_add_one, hd, List.mapIdx_append, List.map_append, List.length_take, Nat.min_eq_left (Nat.le_of_lt hl)]
    simp
  · rintro acc S1 ⟨rfl, rfl⟩
    rw [List.take_length]
    exact q
theorem w_lcM (g : PyData → PyData) (h : ∀ d ∈ ds, wp (G (.d d) ρ S) fun ρ1 S1 => wp (e ρ1 S1) fun v S2 => v = .d (g d) ∧ S2 = S) (q : R ((ds.map g).map .d) S) : wp (lcL G fYes e ρ ds S) R := by
  refine w_lcP (fun _ d => g d) (fun i d hd => h d (List.mem_of_getElem? hd)) ?_
  rw [show ds.mapIdx (fun _ d => g d) = ds.map g from List.ext_getElem (by simp) fun i h1 h2 => by simp]
  exact q
theorem w_lcX {α : Type} {xs : List α} {v : α → PyData} (g : α → PyData) (h : ∀ x ∈ xs, wp (G (.d (v x)) ρ S) fun ρ1 S1 => wp (e ρ1 S1) fun r S2 => r = .d (g x) ∧ S2 = S) (q : R ((xs.map g).map .d) S) : wp (lcL G fYes e ρ (xs.map v) S) R := by
  refine w_lcL (fun i acc S1 => acc = ((xs.take i).map g).map .d ∧ S1 = S) ⟨by simp, rfl⟩ ?_ ?_
  · rintro i d acc S1 hd ⟨rfl, rfl⟩
    obtain ⟨x, hx, rfl⟩ := map_get hd
    refine wp_mono (h x (List.mem_of_getElem? hx)) fun ρ1 S2 hw => wp_some.mpr ⟨fun _ => wp_mono hw ?_, fun z => nomatch z⟩
    rintro r S3 ⟨rfl, rfl⟩
    refine ⟨?_, rfl⟩
    rw [List.take_add_one, hx, List.map_append, List.map_append]
    simp
  · rintro acc S1 ⟨rfl, rfl⟩
    rw [List.length_map, List.take_length]
    exact q
theorem q_allT (h : ∀ d ∈ ds, d = .bool true) : gAll [.d (.list ds)] S = some (.d (.bool true), S) := by
  have e : ds = (ds.map fun _ => true).map PyData.bool := by
    rw [List.map_map]
    conv => lhs; rw [← List.map_id ds]
    exact List.map_congr_left fun d hd => h d hd
  rw [e, q_allD]
  simp
theorem q_sumF {α : Type} (xs : List α) (f : α → Int) : gSum [.d (.list (xs.map fun x => .int (f x)))] S = some (.d (.int (xs.map f).sum), S) := by
  have := q_sumD (S := S) (xs.map f)
  rw [List.map_map] at this
  exact this
end
end QL

namespace QL
open PySem PySem.Spec PyProof.Rows L2
section
variable {S : Sto} {ρ : Rho} {dy : Dy} {G : Gf} {t : Tf} {e f : Ef} {fs : Af} {md : Md} {R : List Val → Sto → Prop} {k : Nat} {ds : List PyData} {fj : Jf} {vs : List Nat} {Q : Val → Sto → Prop}
theorem w_tu {n : Nat} {g : Gs} {Q : Fl → Rho → Sto → Prop} : QL.wpS (sTu fs n g ρ S) Q ↔ wp (fs ρ S) fun as S1 => (as.length = n ∧ as.length ≤ sizeLine) ∧ wp (g as ρ S1) fun ρ2 S2 => Q .nx ρ2 S2 := by
  unfold sTu
  cases h : fs ρ S with
  | none => exact nn QL.wpS_none wp_none
  | some p =>
    obtain ⟨as, S1⟩ := p
    rw [wp_some]
    by_cases hz : as.length = n ∧ as.length ≤ sizeLine
    · simp only [if_pos hz]
      cases h2 : g as ρ S1 with
      | none => exact nn (show ¬ QL.wpS none Q from QL.wpS_none) fun z => wp_none z.2
      | some q =>
        obtain ⟨ρ2, S2⟩ := q
        rw [wp_some]
        exact (show QL.wpS (some (Fl.nx, ρ2, S2)) Q ↔ _ from QL.wpS_some).trans ⟨fun z => ⟨hz, z⟩, fun z => z.2⟩
    · simp only [if_neg hz]
      exact nn QL.wpS_none fun z => hz z.1
/-! ### walks over what may change, said -/
theorem x_lcD : wp (eLcD md fj G t e vs ρ S) Q ↔ wp (fj ρ S) fun dy S1 => wp (lcD dy G t e (wipeR ρ vs) fuelW 0 S1) fun xs S2 => wp (alloc md xs S2) Q := by
  unfold eLcD
  cases h : fj ρ S with
  | none => exact nn wp_none wp_none
  | some p =>
    obtain ⟨dy, S1⟩ := p
    rw [wp_some]
    simp only []
    cases h2 : lcD dy G t e (wipeR ρ vs) fuelW 0 S1 with
    | none => exact nn wp_none wp_none
    | some q =>
      obtain ⟨xs, S2⟩ := q
      rw [wp_some]
def kSq (Q : Dy → Sto → Prop) : Val → Sto → Prop := fun a S => (viewQ S a).isSome = true ∧ Q (dSeq a) S
theorem x_jSq {Q : Dy → Sto → Prop} : wp (jSq f ρ S) Q ↔ wp (f ρ S) (kSq Q) := by
  unfold jSq
  cases h : f ρ S with
  | none => exact nn wp_none wp_none
  | some p =>
    obtain ⟨a, S1⟩ := p
    rw [wp_some]
    unfold kSq
    by_cases hv : (viewQ S1 a).isSome = true
    · simp only [hv, if_true, true_and]
      exact wp_some
    · simp only [hv]
      exact nn wp_none (fun z => by simp at z)
/-- a comprehension without draws over items that stay -/
theorem w_lcDP {items : List Val} (g : Val → Val) (hd : ∀ i, dy S i = some items[i]?) (hl : items.length < 1000000) (h : ∀ x ∈ items, wp (G x ρ S) fun ρ1 S1 => wp (e ρ1 S1) fun v S2 => v = g x ∧ S2 = S) (q : R (items.map g) S) : wp (lcD dy G fYes e ρ fuelW 0 S) R := by
  have key : ∀ (n i : Nat), i + n = fuelW → i ≤ items.length → lcD dy G fYes e ρ n i S = some ((items.drop i).map g, S) := by
    intro n
    induction n with
    | zero =>
      intro i hi hl2
      have : fuelW = 1000000 := rfl
      omega
    | succ n ih =>
      intro i hi hl2
      rw [lcD, hd i]
      by_cases hlt : i < items.length
      · rw [List.getElem?_eq_getElem hlt]
        obtain ⟨ρ1, S1, e1, v, S2, e2, hv, hS⟩ := h items[i] (List.getElem_mem hlt)
        have e3 : fYes ρ1 S1 = some (true, S1) := rfl
        subst hS hv
        simp only [e1, e3, e2, ih (i + 1) (by omega) hlt]
        rw [List.drop_eq_getElem_cons hlt]
        rfl
      · have : i = items.length := by omega
        subst this
        rw [List.getElem?_eq_none (Nat.le_refl _), List.drop_length]
        rfl
  have := key fuelW 0 (Nat.zero_add _) (Nat.zero_le _)
  rw [this, wp_some, List.drop_zero]
  exact q
/-! ### zip of what may change -/
theorem x_jZp : jZp fs ρ S = bnd (fs ρ S) jZ0 := rfl
theorem jZ0_T {ds es : List PyData} : jZ0 [.d (.tuple ds), .d (.tuple es)] S = some ((fun _ i => some ((zipD ds es).map Val.d)[i]?), S) := rfl
theorem jZ0_c {xs es : List PyData} (h : S[k]? = some (.lst (xs.map .d))) : jZ0 [.c k, .d (.list es)] S = some (dZp (.c k) (.d (.list es)), S) := by
  have h1 : viewQ S (.c k) = some (xs.map .d) := by
    unfold viewQ viewL viewS
    simp only [h]
  unfold jZ0
  simp only [h1, show viewQ S (.d (.list es)) = some (es.map .d) from rfl, Option.isSome_some, isTu, and_self, if_true]
theorem jZ0_L {ds es : List PyData} : jZ0 [.d (.list ds), .d (.list es)] S = some (dZp (.d (.list ds)) (.d (.list es)), S) := rfl
theorem dZp_c {xs es : List PyData} (h : S[k]? = some (.lst (xs.map .d))) (i : Nat) : dZp (.c k) (.d (.list es)) S i = some ((zipD xs es).map Val.d)[i]? := by
  have h1 : viewQ S (.c k) = some (xs.map .d) := by
    unfold viewQ viewL viewS
    simp only [h]
  have h2 : viewQ S (.d (.list es)) = some (es.map .d) := rfl
  unfold dZp
  rw [h1, h2]
  simp only [List.getElem?_map]
  cases hx : xs[i]? with
  | none =>
    have : (zipD xs es)[i]? = none := by
      rw [List.getElem?_eq_none_iff] at *
      rw [zipD_len]
      omega
    rw [this]
    rfl
  | some x =>
    cases hy : es[i]? with
    | none =>
      have : (zipD xs es)[i]? = none := by
        rw [List.getElem?_eq_none_iff] at *
        rw [zipD_len]
        omega
      rw [this]
      rfl
    | some y =>
      rw [zipD_get xs es i x y hx hy]
      rfl
theorem dSeq_c {xs : List Val} (h : S[k]? = some (.lst xs)) (i : Nat) : dSeq (.c k) S i = some xs[i]? := by
  unfold dSeq viewQ viewL viewS
  simp only [h]
  rfl
theorem dSeq_d (i : Nat) : dSeq (.d (.list ds)) S i = some (ds.map Val.d)[i]? := rfl
theorem x_forD {g : Sf} {Q : Fl → Rho → Sto → Prop} : QL.wpS (sForD fj G g ρ S) Q ↔ wp (fj ρ S) fun dy S1 => QL.wpS (forD dy G g fuelW 0 ρ S1) Q := by
  unfold sForD
  cases h : fj ρ S with
  | none => exact nn QL.wpS_none wp_none
  | some p =>
    obtain ⟨dy, S1⟩ := p
    rw [wp_some]
/-- a loop over items that stay -/
theorem w_loopD (I : Nat → Rho → Sto → Prop) {items : List Val} {g : Sf} {Q : Fl → Rho → Sto → Prop} (hl : items.length < 1000000) (h0 : I 0 ρ S) (hdy : ∀ i ρ S, I i ρ S → dy S i = some items[i]?)
    (hs : ∀ i x ρ S, items[i]? = some x → I i ρ S → wp (G x ρ S) fun ρ1 S1 => QL.wpS (g ρ1 S1) fun fl ρ2 S2 => match fl with
      | .nx => I (i + 1) ρ2 S2
      | .ct => I (i + 1) ρ2 S2
      | .bk => Q .nx ρ2 S2
      | .rt v => Q (.rt v) ρ2 S2)
    (hd : ∀ ρ S, I items.length ρ S → Q .nx ρ S) : QL.wpS (forD dy G g fuelW 0 ρ S) Q := by
  have key : ∀ (n i : Nat) (ρ : Rho) (S : Sto), i + n = fuelW → i ≤ items.length → I i ρ S → QL.wpS (forD dy G g n i ρ S) Q := by
    intro n
    induction n with
    | zero =>
      intro i ρ S hi hl2 _
      have : fuelW = 1000000 := rfl
      omega
    | succ n ih =>
      intro i ρ S hi hl2 h
      rw [forD, hdy i ρ S h]
      by_cases hlt : i < items.length
      · rw [List.getElem?_eq_getElem hlt]
        obtain ⟨ρ1, S1, e1, fl, ρ2, S2, e2, q⟩ := hs i items[i] ρ S (List.getElem?_eq_getElem hlt) h
        simp only [e1, e2]
        cases fl with
        | nx => exact ih (i + 1) ρ2 S2 (by omega) hlt q
        | ct => exact ih (i + 1) ρ2 S2 (by omega) hlt q
        | bk => exact ⟨_, _, _, rfl, q⟩
        | rt v => exact ⟨_, _, _, rfl, q⟩
      · have e : i = items.length := by omega
        subst e
        rw [List.getElem?_eq_none (Nat.le_refl _)]
        exact ⟨_, _, _, rfl, hd ρ S h⟩
  exact key fuelW 0 ρ S (Nat.zero_add _) (Nat.zero_le _) h0
/-- comprehensions with a test, without draws -/
theorem w_lcF (p : PyData → Bool) (g : PyData → PyData) (h : ∀ d ∈ ds, wp (G (.d d) ρ S) fun ρ1 S1 => wp (t ρ1 S1) fun b S2 => b = p d ∧ S2 = S ∧ (b = true → wp (e ρ1 S) fun v S3 => v = .d (g d) ∧ S3 = S)) (q : R (((ds.filter p).map g).map .d) S) : wp (lcL G t e ρ ds S) R := by
  refine w_lcL (fun i acc S1 => acc = (((ds.take i).filter p).map g).map .d ∧ S1 = S) ⟨by simp, rfl⟩ ?_ ?_
  · rintro i d acc S1 hd ⟨rfl, rfl⟩
    refine wp_mono (h d (List.mem_of_getElem? hd)) fun ρ1 S2 hw => wp_mono hw ?_
    rintro b S3 ⟨rfl, rfl, k⟩
    have et : ds.take (i + 1) = ds.take i ++ [d] := by rw [List.take_add_one, hd]; rfl
    refine ⟨fun hb => wp_mono (k hb) ?_, fun hb => ⟨?_, rfl⟩⟩
    · rintro v S4 ⟨rfl, rfl⟩
      refine ⟨?_, rfl⟩
      rw [et, List.filter_append, List.map_append, List.map_append]
      simp [hb]
    · rw [et, List.filter_append, List.map_append, List.map_append]
      simp [hb]
  · rintro acc S1 ⟨rfl, rfl⟩
    rw [List.take_length]
    exact q
theorem w_lcDF {items : List Val} (p : Val → Bool) (g : Val → Val) (hd : ∀ i, dy S i = some items[i]?) (hl : items.length < 1000000) (h : ∀ x ∈ items, wp (G x ρ S) fun ρ1 S1 => wp (t ρ1 S1) fun b S2 => b = p x ∧ S2 = S ∧ (b = true → wp (e ρ1 S) fun v S3 => v = g x ∧ S3 = S)) (q : R ((items.filter p).map g) S) : wp (lcD dy G t e ρ fuelW 0 S) R := by
  have key : ∀ (n i : Nat), i + n = fuelW → i ≤ items.length → lcD dy G t e ρ n i S = some (((items.drop i).filter p).map g, S) := by
    intro n
    induction n with
    | zero =>
      intro i hi hl2
      have : fuelW = 1000000 := rfl
      omega
    | succ n ih =>
      intro i hi hl2
      rw [lcD, hd i]
      by_cases hlt : i < items.length
      · rw [List.getElem?_eq_getElem hlt]
        obtain ⟨ρ1, S1, e1, b, S2, e2, hb, hS, k⟩ := h items[i] (List.getElem_mem hlt)
        subst hS
        have hdr : items.drop i = items[i] :: items.drop (i + 1) := List.drop_eq_getElem_cons hlt
        cases b with
        | true =>
          obtain ⟨v, S3, e3, hv, hS3⟩ := k rfl
          subst hv hS3
          simp only [e1, e2, e3, ih (i + 1) (by omega) hlt]
          rw [hdr, List.filter_cons, if_pos hb.symm]
          rfl
        | false =>
          simp only [e1, e2, ih (i + 1) (by omega) hlt]
          rw [hdr, List.filter_cons, if_neg (by rw [← hb]; exact Bool.false_ne_true)]
      · have : i = items.length := by omega
        subst this
        rw [List.getElem?_eq_none (Nat.le_refl _), List.drop_length]
        rfl
  have := key fuelW 0 (Nat.zero_add _) (Nat.zero_le _)
  rw [this, wp_some, List.drop_zero]
  exact q
end
end QL

namespace QL
open PySem PySem.Spec PyProof.Rows L2
/-! ### things of one kind as data -/
structure Enc {α : Type} (v : α → PyData) : Prop where
  pl : ∀ x, (v x).plain = true
  dp : ∀ x, (v x).depth ≤ 20
  eq : ∀ x y, PyData.eqv (v x) (v y) = true ↔ x = y
def vx (p : Int × Int) : PyData := .tuple [.int p.1, .int p.2]
abbrev tc {α : Type} (v : α → PyData) (xs : List α) : Cell := .lst ((xs.map v).map Val.d)
theorem encI : Enc PyData.int := ⟨fun _ => rfl, fun _ => Nat.zero_le _, fun x y => by simp only [PyData.eqv, beq_iff_eq]⟩
theorem encS : Enc PyData.str := ⟨fun _ => rfl, fun _ => Nat.zero_le _, fun x y => by simp only [PyData.eqv, beq_iff_eq]⟩
theorem encX : Enc vx := ⟨fun _ => rfl, fun _ => by simp only [vx, PyData.depth, PyData.depthAll]; decide, fun x y => by simp only [vx, PyData.eqv, PyData.eqvAll, Bool.and_true, Bool.and_eq_true, beq_iff_eq, Prod.ext_iff]⟩
section
variable {α : Type} {v : α → PyData} {S : Sto}
theorem Enc.plAll (h : Enc v) : ∀ xs : List α, PyData.plainAll (xs.map v) = true
  | [] => rfl
  | x :: xs => by simp only [List.map_cons, PyData.plainAll, h.pl x, h.plAll xs, Bool.and_self]
theorem Enc.dpAll (h : Enc v) : ∀ xs : List α, PyData.depthAll (xs.map v) ≤ 20
  | [] => Nat.zero_le _
  | x :: xs => by simp only [List.map_cons, PyData.depthAll]; exact Nat.max_le.mpr ⟨h.dp x, h.dpAll xs⟩
theorem Enc.eqAll (h : Enc v) : ∀ xs ys : List α, PyData.eqvAll (xs.map v) (ys.map v) = true ↔ xs = ys
  | [], [] => by simp [PyData.eqvAll]
  | [], _ :: _ => by simp [PyData.eqvAll]
  | _ :: _, [] => by simp [PyData.eqvAll]
  | x :: xs, y :: ys => by simp only [List.map_cons, PyData.eqvAll, Bool.and_eq_true, h.eq x y, h.eqAll xs ys, List.cons.injEq]
theorem Enc.eqb [DecidableEq α] (h : Enc v) (x y : α) : PyData.eqv (v x) (v y) = decide (x = y) := by rw [Bool.eq_iff_iff, h.eq, decide_eq_true_eq]
theorem Enc.any [DecidableEq α] (h : Enc v) (xs : List α) (x : α) : ((xs.map v).any fun y => PyData.eqv y (v x)) = decide (x ∈ xs) := by
  rw [Bool.eq_iff_iff, List.any_eq_true, decide_eq_true_eq]
  constructor
  · rintro ⟨d, hd, e⟩
    obtain ⟨y, hy, rfl⟩ := List.mem_map.mp hd
    rw [← (h.eq y x).mp e]
    exact hy
  · exact fun hx => ⟨_, List.mem_map.mpr ⟨x, hx, rfl⟩, (h.eq x x).mpr rfl⟩
theorem Enc.gEq [DecidableEq α] (h : Enc v) {x y : α} : QL.gEq (.d (v x)) (.d (v y)) S = some (.d (.bool (decide (x = y))), S) := by
  rw [q_eq (h.pl x) (h.pl y) (by have := h.dp x; omega), h.eqb]
theorem Enc.gNe [DecidableEq α] (h : Enc v) {x y : α} : QL.gNe (.d (v x)) (.d (v y)) S = some (.d (.bool (!decide (x = y))), S) := by
  rw [q_ne (h.pl x) (h.pl y) (by have := h.dp x; omega), h.eqb]
theorem Enc.inD [DecidableEq α] (h : Enc v) {x : α} {xs : List α} : QL.inD (v x) (xs.map v) = some (decide (x ∈ xs)) := by
  unfold QL.inD
  rw [h.pl x, h.plAll xs, h.any]
  simp only [Bool.and_self, Bool.true_and, decide_eq_true_eq]
  rw [if_pos (by have := h.dp x; omega)]
theorem Enc.inL [DecidableEq α] (h : Enc v) {x : α} {xs : List α} {a : Val} {neg : Bool} (ha : look S a = some (.list (xs.map v))) : gIn neg (.d (v x)) a S = some (.d (.bool (xor neg (decide (x ∈ xs)))), S) := by
  unfold gIn
  simp only [look_d, ha, h.inD, Option.map_some]
theorem Enc.inT [DecidableEq α] (h : Enc v) {x : α} {xs : List α} {a : Val} {neg : Bool} (ha : look S a = some (.tuple (xs.map v))) : gIn neg (.d (v x)) a S = some (.d (.bool (xor neg (decide (x ∈ xs)))), S) := by
  unfold gIn
  simp only [look_d, ha, h.inD, Option.map_some]
theorem Enc.inC [DecidableEq α] (h : Enc v) {x : α} {xs : List α} {k : Nat} {neg : Bool} (ha : S[k]? = some (tc v xs)) : gIn neg (.d (v x)) (.c k) S = some (.d (.bool (xor neg (decide (x ∈ xs)))), S) := h.inL (look_c ha)
theorem Enc.inM [DecidableEq α] (h : Enc v) {x : α} {xs : List α} {neg : Bool} : gIn neg (.d (v x)) (.d (.list (xs.map v))) S = some (.d (.bool (xor neg (decide (x ∈ xs)))), S) := h.inL (look_d _ _)
theorem Enc.inU [DecidableEq α] (h : Enc v) {x : α} {xs : List α} {neg : Bool} : gIn neg (.d (v x)) (.d (.tuple (xs.map v))) S = some (.d (.bool (xor neg (decide (x ∈ xs)))), S) := h.inT (look_d _ _)
/-- equality of what is seen -/
theorem eq_look {a b : Val} {x y : PyData} (ha : look S a = some x) (hb : look S b = some y) : QL.gEq a b S = QL.gEq (.d x) (.d y) S := by
  unfold QL.gEq
  simp only [ha, hb, look_d]
theorem ne_look {a b : Val} {x y : PyData} (ha : look S a = some x) (hb : look S b = some y) : QL.gNe a b S = QL.gNe (.d x) (.d y) S := by
  unfold QL.gNe
  simp only [ha, hb, look_d]
theorem Enc.eqNil (h : Enc v) {xs : List α} : QL.gEq (.d (.list (xs.map v))) (.d (.list [])) S = some (.d (.bool (xs.isEmpty)), S) := by
  rw [q_eq (by simpa only [PyData.plain] using h.plAll xs) rfl (by simp only [PyData.depth, PyData.depthAll]; omega)]
  cases xs <;> simp [PyData.eqv, PyData.eqvAll]
theorem Enc.neNil (h : Enc v) {xs : List α} : QL.gNe (.d (.list (xs.map v))) (.d (.list [])) S = some (.d (.bool (!xs.isEmpty)), S) := by
  rw [q_ne (by simpa only [PyData.plain] using h.plAll xs) rfl (by simp only [PyData.depth, PyData.depthAll]; omega)]
  cases xs <;> simp [PyData.eqv, PyData.eqvAll]
theorem Enc.eqNilC (h : Enc v) {xs : List α} {k : Nat} (ha : S[k]? = some (tc v xs)) : QL.gEq (.c k) (.d (.list [])) S = some (.d (.bool (xs.isEmpty)), S) := (eq_look (look_c ha) (look_d _ _)).trans h.eqNil
theorem Enc.neNilC (h : Enc v) {xs : List α} {k : Nat} (ha : S[k]? = some (tc v xs)) : QL.gNe (.c k) (.d (.list [])) S = some (.d (.bool (!xs.isEmpty)), S) := (ne_look (look_c ha) (look_d _ _)).trans h.neNil
theorem eqNilD {ds : List PyData} (h : PyData.plainAll ds = true) : QL.gEq (.d (.list ds)) (.d (.list [])) S = some (.d (.bool (ds.isEmpty)), S) := by
  rw [q_eq (by simpa only [PyData.plain] using h) rfl (by simp only [PyData.depth, PyData.depthAll]; omega)]
  cases ds <;> simp [PyData.eqv, PyData.eqvAll]
theorem neNilD {ds : List PyData} (h : PyData.plainAll ds = true) : QL.gNe (.d (.list ds)) (.d (.list [])) S = some (.d (.bool (!ds.isEmpty)), S) := by
  rw [q_ne (by simpa only [PyData.plain] using h) rfl (by simp only [PyData.depth, PyData.depthAll]; omega)]
  cases ds <;> simp [PyData.eqv, PyData.eqvAll]
theorem Enc.place [DecidableEq α] (h : Enc v) : ∀ {xs : List α} {x : α}, x ∈ xs → SeqAt.dataPlace (xs.map v) (v x) = some (xs.idxOf x)
  | [], _, hx => by cases hx
  | y :: ys, x, hx => by
    unfold SeqAt.dataPlace
    rw [List.map_cons, List.findIdx?_cons, h.eqb]
    by_cases e : y = x
    · subst e
      simp
    · rw [decide_eq_false e, show (y :: ys).idxOf x = ys.idxOf x + 1 from by rw [List.idxOf_cons, beq_false_of_ne e]; rfl]
      have hm : x ∈ ys := by
        rcases List.mem_cons.mp hx with q | q
        · exact absurd q.symm e
        · exact q
      have := Enc.place h hm
      unfold SeqAt.dataPlace at this
      simp only [this, Option.map_some]
      rfl
theorem er_map {α β : Type} (f : α → β) : ∀ (xs : List α) (i : Nat), (xs.map f).eraseIdx i = (xs.eraseIdx i).map f
  | [], _ => rfl
  | _ :: _, 0 => rfl
  | x :: xs, i + 1 => by simp only [List.map_cons, List.eraseIdx_cons_succ, er_map f xs i]
theorem map_erase [DecidableEq α] (v : α → PyData) (xs : List α) (x : α) : ((xs.map v).map Val.d).eraseIdx (xs.idxOf x) = ((xs.erase x).map v).map Val.d := by
  rw [List.erase_eq_eraseIdx_of_idxOf rfl, er_map, er_map]
theorem Enc.remove [DecidableEq α] (h : Enc v) {xs : List α} {x : α} {k : Nat} (ha : S[k]? = some (tc v xs)) (hx : x ∈ xs) : gRemove (.c k) [.d (v x)] S = some (.d .none, S.set k (tc v (xs.erase x))) := by
  have ha' : S[k]? = some (.lst ((xs.map v).map Val.d)) := ha
  unfold gRemove
  simp only [ha', look_c ha', look_d]
  rw [if_pos ⟨h.plAll xs, h.pl x, by have := h.dp x; omega⟩, h.place hx, Option.map_some, map_erase]
theorem tc_app {k : Nat} {xs : List α} {y : α} (ha : S[k]? = some (tc v xs)) (hz : xs.length < 16777216) : gAppend (.c k) [.d (v y)] S = some (.d .none, S.set k (tc v (xs ++ [y]))) := by
  rw [q_append ha (by rw [List.length_map, List.length_map, sizeLine_eq]; exact hz)]
  unfold tc
  rw [List.map_append, List.map_append]
  rfl
theorem tc_len {k : Nat} {xs : List α} (ha : S[k]? = some (tc v xs)) : gLen [.c k] S = some (.d (.int xs.length), S) := by
  rw [q_lenC ha, List.length_map, List.length_map]
theorem tc_ix {k : Nat} {xs : List α} {i : Int} (ha : S[k]? = some (tc v xs)) : gIx (.c k) (.d (.int i)) S = ((atI xs i).map fun x => (.d (v x), S)) := by
  rw [q_ixC ha, atI_map, atI_map]
  cases atI xs i <;> rfl
theorem w_tcix {k : Nat} {xs : List α} {i : Int} {Q : Val → Sto → Prop} (ha : S[k]? = some (tc v xs)) : wp (gIx (.c k) (.d (.int i)) S) Q ↔ ∃ x, atI xs i = some x ∧ Q (.d (v x)) S := by
  rw [tc_ix ha]
  cases h : atI xs i with
  | none => exact nn wp_none (by rintro ⟨_, e, _⟩; cases e)
  | some x =>
    refine (wp_some (Q := Q)).trans ⟨fun q => ⟨x, rfl, q⟩, ?_⟩
    rintro ⟨_, e, q⟩
    cases e
    exact q
theorem w_atV {xs : List α} {i : Int} {Q : Val → Sto → Prop} : wp ((atI ((xs.map v).map Val.d) i).map fun x => (x, S)) Q ↔ ∃ x, atI xs i = some x ∧ Q (.d (v x)) S := by
  rw [atI_map, atI_map]
  cases h : atI xs i with
  | none => exact nn wp_none (by rintro ⟨_, e, _⟩; cases e)
  | some x =>
    refine (wp_some (Q := Q)).trans ⟨fun q => ⟨x, rfl, q⟩, ?_⟩
    rintro ⟨_, e, q⟩
    cases e
    exact q
theorem tc_set {k : Nat} {xs : List α} {i : Int} {y : α} (ha : S[k]? = some (tc v xs)) (h0 : 0 ≤ i) (h1 : i < xs.length) : setIx (.c k) (.d (.int i)) (.d (v y)) S = some (S.set k (tc v (xs.set i.toNat y))) := by
  rw [q_setC (n := i.toNat) ha (by unfold ixN; rw [if_pos h0, if_pos (by simpa using h1)])]
  unfold tc
  rw [List.map_set, List.map_set]
theorem tc_frz {k : Nat} {xs : List α} (ha : S[k]? = some (tc v xs)) : frz1 (.c k) S = some (.list (xs.map v), S.set k (.frz (.list (xs.map v)))) := q_frzC ha
theorem tc_ext {k : Nat} {xs ys : List α} (ha : S[k]? = some (tc v xs)) {a : Val} (hv : viewE S a = some ((ys.map v).map .d)) (hz : xs.length + ys.length ≤ 16777216) : gExtend (.c k) [a] S = some (.d .none, S.set k (tc v (xs ++ ys))) := by
  have ha' : S[k]? = some (.lst ((xs.map v).map Val.d)) := ha
  unfold gExtend
  simp only [ha', hv]
  rw [if_pos (by simp only [List.length_map, sizeLine_eq]; omega)]
  unfold tc
  rw [List.map_append, List.map_append]
theorem tc_vQ {k : Nat} {xs : List α} (ha : S[k]? = some (tc v xs)) : viewQ S (.c k) = some ((xs.map v).map .d) := by rw [viewQ_L rfl, viewL_c ha]
theorem tc_vw {k : Nat} {xs : List α} (ha : S[k]? = some (tc v xs)) : viewL S (.c k) = some ((xs.map v).map .d) := viewL_c ha
theorem w_atM {xs : List α} {i : Int} {P : PyData → Prop} : (∃ x, atI (xs.map v) i = some x ∧ P x) ↔ ∃ y, atI xs i = some y ∧ P (v y) := by
  rw [atI_map]
  cases h : atI xs i with
  | none => constructor <;> (rintro ⟨_, e, _⟩; cases e)
  | some x => exact ⟨fun ⟨_, e, q⟩ => by cases e; exact ⟨x, rfl, q⟩, fun ⟨_, e, q⟩ => by cases e; exact ⟨_, rfl, q⟩⟩
theorem tc_dr {k N j : Nat} {S' : Sto} {xs : List α} (g : Dr k N S S') (hj : j ≠ k) (ha : S[j]? = some (tc v xs)) : S'[j]? = some (tc v xs) := g.get hj ha
theorem atI_last {xs : List α} {x : α} : atI (xs ++ [x]) (-1) = some x := by
  unfold atI ixN
  rw [if_neg (by decide), if_pos (by rw [List.length_append, List.length_singleton]; omega), List.length_append]
  show (xs ++ [x])[(-1 + ((xs.length + 1 : Nat) : Int)).toNat]? = some x
  rw [show (-1 + ((xs.length + 1 : Nat) : Int)).toNat = xs.length by omega]
  simp
theorem alloc_V (xs : List α) : alloc .D ((xs.map v).map .d) S = some (.d (.list (xs.map v)), S) := alloc_D _ _
theorem alloc_W (xs : List α) : alloc .N ((xs.map v).map .d) S = some (.c S.length, S ++ [tc v xs]) := alloc_N _ _
end
/-! ### walks over things of one kind -/
section
variable {α : Type} {S : Sto} {ρ : Rho} {dy : Dy} {G : Gf} {t : Tf} {e : Ef} {R : List Val → Sto → Prop}
theorem w_lcFX {xs : List α} {v : α → PyData} (p : α → Bool) (g : α → PyData) (h : ∀ x ∈ xs, wp (G (.d (v x)) ρ S) fun ρ1 S1 => wp (t ρ1 S1) fun b S2 => b = p x ∧ S2 = S ∧ (b = true → wp (e ρ1 S) fun r S3 => r = .d (g x) ∧ S3 = S)) (q : R (((xs.filter p).map g).map .d) S) : wp (lcL G t e ρ (xs.map v) S) R := by
  refine w_lcL (fun i acc S1 => acc = (((xs.take i).filter p).map g).map .d ∧ S1 = S) ⟨by simp, rfl⟩ ?_ ?_
  · rintro i d acc S1 hd ⟨rfl, rfl⟩
    obtain ⟨x, hx, rfl⟩ := map_get hd
    refine wp_mono (h x (List.mem_of_getElem? hx)) fun ρ1 S2 hw => wp_mono hw ?_
    rintro b S3 ⟨rfl, rfl, k⟩
    have et : xs.take (i + 1) = xs.take i ++ [x] := by rw [List.take_add_one, hx]; rfl
    refine ⟨fun hb => wp_mono (k hb) ?_, fun hb => ⟨?_, rfl⟩⟩
    · rintro v S4 ⟨rfl, rfl⟩
      refine ⟨?_, rfl⟩
      rw [et, List.filter_append, List.map_append, List.map_append]
      simp [hb]
    · rw [et, List.filter_append, List.map_append, List.map_append]
      simp [hb]
  · rintro acc S1 ⟨rfl, rfl⟩
    rw [List.length_map, List.take_length]
    exact q
theorem w_lcDX {xs : List α} {v : α → Val} (p : α → Bool) (g : α → PyData) (hd : ∀ i, dy S i = some (xs.map v)[i]?) (hl : xs.length < 1000000) (h : ∀ x ∈ xs, wp (G (v x) ρ S) fun ρ1 S1 => wp (t ρ1 S1) fun b S2 => b = p x ∧ S2 = S ∧ (b = true → wp (e ρ1 S) fun r S3 => r = .d (g x) ∧ S3 = S)) (q : R (((xs.filter p).map g).map .d) S) : wp (lcD dy G t e ρ fuelW 0 S) R := by
  have key : ∀ (n i : Nat), i + n = fuelW → i ≤ xs.length → lcD dy G t e ρ n i S = some ((((xs.drop i).filter p).map g).map .d, S) := by
    intro n
    induction n with
    | zero =>
      intro i hi hl2
      have : fuelW = 1000000 := rfl
      omega
    | succ n ih =>
      intro i hi hl2
      rw [lcD, hd i]
      by_cases hlt : i < xs.length
      · rw [List.getElem?_map, List.getElem?_eq_getElem hlt, Option.map_some]
        obtain ⟨ρ1, S1, e1, b, S2, e2, hb, hS, k⟩ := h xs[i] (List.getElem_mem hlt)
        subst hS
        have hdr : xs.drop i = xs[i] :: xs.drop (i + 1) := List.drop_eq_getElem_cons hlt
        cases b with
        | true =>
          obtain ⟨v, S3, e3, hv, hS3⟩ := k rfl
          subst hv hS3
          simp only [e1, e2, e3, ih (i + 1) (by omega) hlt]
          rw [hdr, List.filter_cons, if_pos hb.symm]
          rfl
        | false =>
          simp only [e1, e2, ih (i + 1) (by omega) hlt]
          rw [hdr, List.filter_cons, if_neg (by rw [← hb]; exact Bool.false_ne_true)]
      · have : i = xs.length := by omega
        subst this
        rw [List.getElem?_eq_none (by rw [List.length_map]; exact Nat.le_refl _), List.drop_length]
        rfl
  have := key fuelW 0 (Nat.zero_add _) (Nat.zero_le _)
  rw [this, wp_some, List.drop_zero]
  exact q
theorem w_lcDM {xs : List α} {v : α → Val} (g : α → PyData) (hd : ∀ i, dy S i = some (xs.map v)[i]?) (hl : xs.length < 1000000) (h : ∀ x ∈ xs, wp (G (v x) ρ S) fun ρ1 S1 => wp (e ρ1 S1) fun r S3 => r = .d (g x) ∧ S3 = S1 ∧ S1 = S) (q : R ((xs.map g).map .d) S) : wp (lcD dy G fYes e ρ fuelW 0 S) R := by
  refine w_lcDX (fun _ => true) g hd hl (fun x hx => ?_) (by rw [List.filter_eq_self.mpr fun _ _ => rfl]; exact q)
  refine wp_mono (h x hx) fun ρ1 S1 hw => wp_some.mpr ?_
  obtain ⟨r, S3, e1, rfl, rfl, rfl⟩ := hw
  exact ⟨rfl, rfl, fun _ => ⟨_, _, e1, rfl, rfl⟩⟩
theorem dSeq_tc {v : α → PyData} {xs : List α} {k : Nat} (h : S[k]? = some (tc v xs)) (i : Nat) : dSeq (.c k) S i = some (xs.map fun x => Val.d (v x))[i]? := by
  rw [dSeq_c h i, List.map_map]
  rfl
/-- a loop over things of one kind: what is met so far, and the next one -/
theorem w_loopX {xs : List α} {v : α → PyData} {f : Sf} {Q : Fl → Rho → Sto → Prop} (I : List α → Rho → Sto → Prop) (h0 : I [] ρ S)
    (hs : ∀ pre x post ρ S, xs = pre ++ x :: post → I pre ρ S → wp (G (.d (v x)) ρ S) fun ρ1 S1 => QL.wpS (f ρ1 S1) fun fl ρ2 S2 => match fl with
      | .nx => I (pre ++ [x]) ρ2 S2
      | .ct => I (pre ++ [x]) ρ2 S2
      | .bk => Q .nx ρ2 S2
      | .rt r => Q (.rt r) ρ2 S2)
    (hd : ∀ ρ S, I xs ρ S → Q .nx ρ S) : QL.wpS (forL G f (xs.map v) ρ S) Q := by
  refine w_loop (fun i ρ S => I (xs.take i) ρ S) (by simpa using h0) ?_ (fun ρ S h => hd ρ S (by rw [List.length_map, List.take_length] at h; exact h))
  intro i d ρ S hd h
  obtain ⟨x, hx, rfl⟩ := map_get hd
  obtain ⟨hl, he⟩ := List.getElem?_eq_some_iff.mp hx
  have e1 : xs = xs.take i ++ x :: xs.drop (i + 1) := by rw [← he, ← List.drop_eq_getElem_cons hl, List.take_append_drop]
  have e2 : xs.take (i + 1) = xs.take i ++ [x] := by rw [List.take_add_one, hx]; rfl
  rw [e2]
  exact hs _ x _ ρ S e1 h
/-- a while -/
theorem w_while {f : Tf} {fb : Sf} {Q : Fl → Rho → Sto → Prop} (n : Nat) (I : Nat → Rho → Sto → Prop) (h0 : I n ρ S)
    (hs : ∀ i ρ S, I i ρ S → wp (f ρ S) fun b S1 => (b = false → Q .nx ρ S1) ∧ (b = true → ∃ j, i = j + 1 ∧ QL.wpS (fb ρ S1) fun fl ρ2 S2 => match fl with
      | .nx => I j ρ2 S2
      | .ct => I j ρ2 S2
      | .bk => Q .nx ρ2 S2
      | .rt r => Q (.rt r) ρ2 S2)) (hn : n < 1000000 := by omega) : QL.wpS (whileN f fb fuelW ρ S) Q := by
  have key : ∀ (i m : Nat) (ρ : Rho) (S : Sto), i < m → I i ρ S → QL.wpS (whileN f fb m ρ S) Q := by
    intro i
    induction i with
    | zero =>
      intro m ρ S hm h
      obtain ⟨b, S1, e1, q1, q2⟩ := hs 0 ρ S h
      cases m with
      | zero => omega
      | succ m =>
        rw [whileN]
        cases b with
        | false => simp only [e1]; exact ⟨_, _, _, rfl, q1 rfl⟩
        | true => obtain ⟨j, hj, _⟩ := q2 rfl; omega
    | succ i ih =>
      intro m ρ S hm h
      obtain ⟨b, S1, e1, q1, q2⟩ := hs (i + 1) ρ S h
      cases m with
      | zero => omega
      | succ m =>
        rw [whileN]
        cases b with
        | false => simp only [e1]; exact ⟨_, _, _, rfl, q1 rfl⟩
        | true =>
          obtain ⟨j, hj, fl, ρ2, S2, e2, q⟩ := q2 rfl
          cases hj
          simp only [e1, e2]
          cases fl with
          | nx => exact ih m ρ2 S2 (by omega) q
          | ct => exact ih m ρ2 S2 (by omega) q
          | bk => exact ⟨_, _, _, rfl, q⟩
          | rt r => exact ⟨_, _, _, rfl, q⟩
  exact key n fuelW ρ S hn h0
end
end QL

namespace QL
open PySem PySem.Spec PyProof.Rows L2
/-! ### jobs and plans, typed -/
structure Fd where
  kd : Str
  pl : Int × Int
  m : Int
structure Pt where
  kd : Str
  pl : Int × Int
structure Jb where
  gate : Int × Int
  heads : Int
  fs : List Fd
  ps : List Pt
  as : List (Int × Int)
abbrev Tr := List (Int × Int) × List Int
def vF (f : Fd) : PyData := .tuple [.str f.kd, vx f.pl, .int f.m]
def vP (p : Pt) : PyData := .tuple [.str p.kd, vx p.pl]
def vJ (j : Jb) : PyData := .tuple [vx j.gate, .int j.heads, .tuple (j.fs.map vF), .tuple (j.ps.map vP), .tuple (j.as.map vx)]
def vT (t : Tr) : PyData := .tuple [.tuple (t.1.map vx), .tuple (t.2.map .int)]
section
variable {S : Sto} {j : Jb} {f : Fd} {p : Pt} {t : Tr} {x : Int × Int}
theorem at_3 {α : Type} {a b c d : α} {r : List α} : atI (a :: b :: c :: d :: r) 3 = some d := by
  unfold atI ixN
  rw [if_pos (by decide), if_pos (by simp only [List.length_cons]; omega)]
  rfl
theorem at_4 {α : Type} {a b c d e : α} {r : List α} : atI (a :: b :: c :: d :: e :: r) 4 = some e := by
  unfold atI ixN
  rw [if_pos (by decide), if_pos (by simp only [List.length_cons]; omega)]
  rfl
theorem jx0 : gIx (.d (vJ j)) (.d (.int 0)) S = some (.d (vx j.gate), S) := by unfold vJ; rw [q_ixT, List.map_cons, at_0]; rfl
theorem jx1 : gIx (.d (vJ j)) (.d (.int 1)) S = some (.d (.int j.heads), S) := by unfold vJ; rw [q_ixT]; simp only [List.map_cons, at_1]; rfl
theorem jx2 : gIx (.d (vJ j)) (.d (.int 2)) S = some (.d (.tuple (j.fs.map vF)), S) := by unfold vJ; rw [q_ixT]; simp only [List.map_cons, at_2]; rfl
theorem jx3 : gIx (.d (vJ j)) (.d (.int 3)) S = some (.d (.tuple (j.ps.map vP)), S) := by unfold vJ; rw [q_ixT]; simp only [List.map_cons, at_3]; rfl
theorem jx4 : gIx (.d (vJ j)) (.d (.int 4)) S = some (.d (.tuple (j.as.map vx)), S) := by unfold vJ; rw [q_ixT]; simp only [List.map_cons, at_4]; rfl
theorem fx0 : gIx (.d (vF f)) (.d (.int 0)) S = some (.d (.str f.kd), S) := by unfold vF; rw [q_ixT]; simp only [List.map_cons, at_0]; rfl
theorem fx1 : gIx (.d (vF f)) (.d (.int 1)) S = some (.d (vx f.pl), S) := by unfold vF; rw [q_ixT]; simp only [List.map_cons, at_1]; rfl
theorem fx2 : gIx (.d (vF f)) (.d (.int 2)) S = some (.d (.int f.m), S) := by unfold vF; rw [q_ixT]; simp only [List.map_cons, at_2]; rfl
theorem px0 : gIx (.d (vP p)) (.d (.int 0)) S = some (.d (.str p.kd), S) := by unfold vP; rw [q_ixT]; simp only [List.map_cons, at_0]; rfl
theorem px1 : gIx (.d (vP p)) (.d (.int 1)) S = some (.d (vx p.pl), S) := by unfold vP; rw [q_ixT]; simp only [List.map_cons, at_1]; rfl
theorem tx0 : gIx (.d (vT t)) (.d (.int 0)) S = some (.d (.tuple (t.1.map vx)), S) := by unfold vT; rw [q_ixT]; simp only [List.map_cons, at_0]; rfl
theorem tx1 : gIx (.d (vT t)) (.d (.int 1)) S = some (.d (.tuple (t.2.map .int)), S) := by unfold vT; rw [q_ixT]; simp only [List.map_cons, at_1]; rfl
theorem xx0 : gIx (.d (vx x)) (.d (.int 0)) S = some (.d (.int x.1), S) := by unfold vx; rw [q_ixT]; simp only [List.map_cons, at_0]; rfl
theorem xx1 : gIx (.d (vx x)) (.d (.int 1)) S = some (.d (.int x.2), S) := by unfold vx; rw [q_ixT]; simp only [List.map_cons, at_1]; rfl
theorem g2x {r : Gs} {ρ : Rho} : gTu 2 r (.d (vx x)) ρ S = r [.d (.int x.1), .d (.int x.2)] ρ S := rfl
theorem g2t {r : Gs} {ρ : Rho} : gTu 2 r (.d (vT t)) ρ S = r [.d (.tuple (t.1.map vx)), .d (.tuple (t.2.map .int))] ρ S := rfl
theorem g2p {r : Gs} {ρ : Rho} : gTu 2 r (.d (vP p)) ρ S = r [.d (.str p.kd), .d (vx p.pl)] ρ S := rfl
theorem g3f {r : Gs} {ρ : Rho} : gTu 3 r (.d (vF f)) ρ S = r [.d (.str f.kd), .d (vx f.pl), .d (.int f.m)] ρ S := rfl
theorem mk_x {a b : Int} : mkT [.d (.int a), .d (.int b)] S = some (.d (vx (a, b)), S) := rfl
theorem mk_t {a : List (Int × Int)} {b : List Int} : mkT [.d (.tuple (a.map vx)), .d (.tuple (b.map .int))] S = some (.d (vT (a, b)), S) := rfl
end
def rngI (n : Nat) : List Int := (List.range n).map fun i : Nat => (i : Int)
theorem rngD_I (n : Nat) : rngD 0 n = (rngI n).map .int := by
  unfold rngD rngI
  rw [List.map_map]
  exact List.map_congr_left fun i _ => by simp
theorem rngI_mem {n : Nat} {x : Int} : x ∈ rngI n ↔ 0 ≤ x ∧ x < n := by
  unfold rngI
  rw [List.mem_map]
  constructor
  · rintro ⟨i, hi, rfl⟩
    have := List.mem_range.mp hi
    omega
  · rintro ⟨h0, h1⟩
    exact ⟨x.toNat, List.mem_range.mpr (by omega), by omega⟩
theorem rngI_nd (n : Nat) : (rngI n).Nodup := by
  unfold rngI
  exact List.pairwise_map.mpr (List.nodup_range.imp fun {a b} h e => h (by omega))
theorem rngI_len (n : Nat) : (rngI n).length = n := by unfold rngI; simp
/-- in an order all that must lie ahead of one lie ahead -/
def Topo (as : List (Int × Int)) (es : List Int) : Prop := ∀ pre y post, es = pre ++ y :: post → ∀ x, (x, y) ∈ as → x ∈ pre
theorem Topo.nil (as : List (Int × Int)) : Topo as [] := fun pre y post h => by simp at h
theorem Topo.app {as : List (Int × Int)} {es : List Int} {z : Int} (h : Topo as es) (hz : ∀ x, (x, z) ∈ as → x ∈ es) : Topo as (es ++ [z]) := by
  intro pre y post e x hx
  rcases List.append_eq_append_iff.mp e with ⟨a, h1, h2⟩ | ⟨a, h1, h2⟩
  · cases a with
    | nil =>
      simp only [List.nil_append, List.cons.injEq] at h2
      obtain ⟨rfl, rfl⟩ := h2
      simp only [List.append_nil] at h1
      rw [h1]
      exact hz x hx
    | cons b a =>
      simp at h2
  · cases a with
    | nil =>
      simp only [List.nil_append, List.cons.injEq] at h2
      obtain ⟨rfl, rfl⟩ := h2
      simp only [List.append_nil] at h1
      rw [← h1]
      exact hz x hx
    | cons b a =>
      simp only [List.cons_append, List.cons.injEq] at h2
      obtain ⟨rfl, rfl⟩ := h2
      exact h pre y a h1 x hx
end QL
namespace QL
open PySem PySem.Spec PyProof.Rows L2
/-! ### enumerate, typed -/
def enI {α : Type} (xs : List α) : List (Int × α) := xs.zipIdx.map fun p => ((p.2 : Int), p.1)
def vE {α : Type} (v : α → PyData) (p : Int × α) : PyData := .tuple [.int p.1, v p.2]
theorem enumD_zip {α : Type} (v : α → PyData) : ∀ (xs : List α) (n : Nat), enumD n (xs.map v) = ((xs.zipIdx n).map fun p => ((p.2 : Int), p.1)).map (vE v)
  | [], _ => rfl
  | x :: xs, n => by
    rw [List.map_cons, List.zipIdx_cons, List.map_cons, List.map_cons]
    have := enumD_zip v xs (n + 1)
    rw [← this]
    rfl
theorem enumD_en {α : Type} (v : α → PyData) (xs : List α) : enumD 0 (xs.map v) = (enI xs).map (vE v) := enumD_zip v xs 0
theorem enI_mem {α : Type} {xs : List α} {i : Int} {x : α} (h : (i, x) ∈ enI xs) : 0 ≤ i ∧ atI xs i = some x := by
  unfold enI at h
  obtain ⟨⟨y, n⟩, h1, h2⟩ := List.mem_map.mp h
  obtain ⟨rfl, rfl⟩ : (n : Int) = i ∧ y = x := by simpa using h2
  have h3 : xs[n]? = some y := by
    have := List.mem_zipIdx_iff_getElem?.mp h1
    simpa using this
  refine ⟨by omega, ?_⟩
  unfold atI ixN
  rw [if_pos (by omega), if_pos (by have := (List.getElem?_eq_some_iff.mp h3).1; omega)]
  simpa using h3
theorem g2e {α : Type} {v : α → PyData} {p : Int × α} {r : Gs} {ρ : Rho} {S : Sto} : gTu 2 r (.d (vE v p)) ρ S = r [.d (.int p.1), .d (v p.2)] ρ S := rfl
theorem mapI {α : Type} (f : α → Int) (xs : List α) : (xs.map fun x => PyData.int (f x)) = (xs.map f).map PyData.int := by rw [List.map_map]; rfl
theorem mapB {α : Type} (f : α → Bool) (xs : List α) : (xs.map fun x => PyData.bool (f x)) = (xs.map f).map PyData.bool := by rw [List.map_map]; rfl
theorem perm_lift {α β : Type} {f : α → β} {es ds : List β} (h : es.Perm ds) : ∀ ps : List α, ds = ps.map f → ∃ sh : List α, es = sh.map f ∧ sh.Perm ps := by
  induction h with
  | nil => exact fun ps e => ⟨[], rfl, by
      cases ps with
      | nil => exact .refl _
      | cons => cases e⟩
  | cons x _ ih =>
    intro ps e
    cases ps with
    | nil => cases e
    | cons p ps =>
      simp only [List.map_cons, List.cons.injEq] at e
      obtain ⟨sh, rfl, h⟩ := ih ps e.2
      exact ⟨p :: sh, by rw [List.map_cons, e.1], h.cons p⟩
  | swap x y l =>
    intro ps e
    match ps, e with
    | [], e => cases e
    | [_], e => simp at e
    | p :: q :: ps, e =>
      simp only [List.map_cons, List.cons.injEq] at e
      exact ⟨q :: p :: ps, by simp only [List.map_cons, e.1, e.2.1, e.2.2], List.Perm.swap p q ps⟩
  | trans _ _ ih1 ih2 =>
    intro ps e
    obtain ⟨s2, rfl, h2⟩ := ih2 ps e
    obtain ⟨s1, rfl, h1⟩ := ih1 s2 rfl
    exact ⟨s1, rfl, h1.trans h2⟩
/-! ### right plans -/
def PkOk (j : Jb) (p : Int × Int) : Prop := ∃ q f, 0 ≤ p.1 ∧ atI j.ps p.1 = some q ∧ 0 ≤ p.2 ∧ atI j.fs p.2 = some f ∧ f.kd = q.kd
structure TrOk (j : Jb) (t : Tr) : Prop where
  ne : t.1 ≠ []
  le : (t.1.length : Int) ≤ j.heads
  lay : t.2.Perm (t.1.map Prod.fst)
  pk : ∀ p ∈ t.1, PkOk j p
def laysO (pl : List Tr) : List Int := pl.flatMap Prod.snd
def picksO (pl : List Tr) : List (Int × Int) := pl.flatMap Prod.fst
def usedO (pl : List Tr) : List Int := (picksO pl).map Prod.snd
structure Right (j : Jb) (pl : List Tr) : Prop where
  tr : ∀ t ∈ pl, TrOk j t
  nd : (laysO pl).Nodup
  to : Topo j.as (laysO pl)
  st : ∀ (i : Nat) (f : Fd), j.fs[i]? = some f → ((usedO pl).count (i : Int) : Int) ≤ f.m
theorem laysO_app (a b : List Tr) : laysO (a ++ b) = laysO a ++ laysO b := List.flatMap_append ..
theorem picksO_app (a b : List Tr) : picksO (a ++ b) = picksO a ++ picksO b := List.flatMap_append ..
/-- while a plan is drawn: trips found, picks, parts left out, what feeders have -/
structure PSt (j : Jb) (pre : List Int) (fo : List Tr) (ps : List (Int × Int)) (ou st : List Int) : Prop where
  tr : ∀ t ∈ fo, TrOk j t
  pk : ∀ p ∈ ps, PkOk j p
  le : (ps.length : Int) ≤ j.heads
  all : ∀ x ∈ pre, x ∈ ou ∨ x ∈ laysO fo ++ ps.map Prod.fst
  sub : (laysO fo ++ ps.map Prod.fst).Sublist pre
  to : Topo j.as (laysO fo ++ ps.map Prod.fst)
  sl : st.length = j.fs.length
  st : ∀ (i : Nat) (f : Fd), j.fs[i]? = some f → ∃ s : Int, st[i]? = some s ∧ 0 ≤ s ∧ s = f.m - ((picksO fo ++ ps).map Prod.snd).count (i : Int)
theorem PSt.out {j : Jb} {pre : List Int} {fo : List Tr} {ps : List (Int × Int)} {ou st : List Int} (h : PSt j pre fo ps ou st) (z : Int) : PSt j (pre ++ [z]) fo ps (ou ++ [z]) st :=
  ⟨h.tr, h.pk, h.le, fun x hx => by
    rcases List.mem_append.mp hx with q | q
    · rcases h.all x q with r | r
      · exact .inl (List.mem_append_left _ r)
      · exact .inr r
    · exact .inl (List.mem_append_right _ q), h.sub.trans (List.sublist_append_left ..), h.to, h.sl, h.st⟩
theorem PSt.pick {j : Jb} {pre : List Int} {fo : List Tr} {ps : List (Int × Int)} {ou st : List Int} {z a s : Int} (h : PSt j pre fo ps ou st) (hk : PkOk j (z, a)) (hl : (ps.length : Int) < j.heads) (ht : ∀ x, (x, z) ∈ j.as → x ∈ pre ∧ x ∉ ou) (h0 : 0 < s) (hs : atI st a = some s) :
    PSt j (pre ++ [z]) fo (ps ++ [(z, a)]) ou (st.set a.toNat (s - 1)) := by
  have e : laysO fo ++ (ps ++ [(z, a)]).map Prod.fst = (laysO fo ++ ps.map Prod.fst) ++ [z] := by simp
  obtain ⟨q, f, _, _, a0, af, _⟩ := hk
  have hal : a.toNat < st.length := by
    rw [h.sl]
    unfold atI ixN at af
    rw [if_pos a0] at af
    split at af
    · omega
    · cases af
  have hsa : st[a.toNat]? = some s := by
    unfold atI ixN at hs
    rw [if_pos a0, if_pos (by omega)] at hs
    exact hs
  refine ⟨h.tr, fun p hp => ?_, by rw [List.length_append, List.length_singleton]; omega, fun x hx => ?_, ?_, ?_, by rw [List.length_set]; exact h.sl, fun i g hg => ?_⟩
  · rcases List.mem_append.mp hp with r | r
    · exact h.pk p r
    · rw [List.mem_singleton.mp r]
      exact ⟨q, f, by assumption, by assumption, a0, af, by assumption⟩
  · rw [e]
    rcases List.mem_append.mp hx with r | r
    · rcases h.all x r with w | w
      · exact .inl w
      · exact .inr (List.mem_append_left _ w)
    · exact .inr (List.mem_append_right _ r)
  · rw [e]
    exact h.sub.append (List.Sublist.refl _)
  · rw [e]
    exact h.to.app fun x hx => by
      obtain ⟨h1, h2⟩ := ht x hx
      exact (h.all x h1).resolve_left h2
  · obtain ⟨s', h1, h2, h3⟩ := h.st i g hg
    have ec : ((picksO fo ++ (ps ++ [(z, a)])).map Prod.snd).count (i : Int) = ((picksO fo ++ ps).map Prod.snd).count (i : Int) + if a = (i : Int) then 1 else 0 := by
      rw [← List.append_assoc, List.map_append, List.count_append]
      simp only [List.map_cons, List.map_nil, List.count_singleton, beq_iff_eq]
    rw [ec]
    by_cases hi : a = (i : Int)
    · have hi2 : a.toNat = i := by omega
      subst hi2
      rw [hsa] at h1
      cases h1
      refine ⟨s - 1, by rw [List.getElem?_set_self (by omega)], by omega, ?_⟩
      rw [if_pos hi]
      omega
    · refine ⟨s', by rw [List.getElem?_set_ne (by omega)]; exact h1, h2, ?_⟩
      rw [if_neg hi]
      omega
theorem PSt.flush {j : Jb} {pre : List Int} {fo : List Tr} {ps sh : List (Int × Int)} {ou st : List Int} (h : PSt j pre fo ps ou st) (hne : ps ≠ []) (hp : sh.Perm ps) (hh : 0 ≤ j.heads) : PSt j pre (fo ++ [(sh, ps.map Prod.fst)]) [] ou st := by
  have e : laysO (fo ++ [(sh, ps.map Prod.fst)]) ++ ([] : List (Int × Int)).map Prod.fst = laysO fo ++ ps.map Prod.fst := by
    rw [laysO_app]; simp [laysO]
  refine ⟨fun t ht => ?_, by simp, by simpa using hh, by rw [e]; exact h.all, by rw [e]; exact h.sub, by rw [e]; exact h.to, h.sl, fun i f hf => ?_⟩
  · rcases List.mem_append.mp ht with r | r
    · exact h.tr t r
    · rw [List.mem_singleton.mp r]
      refine ⟨fun q => hne (by have q : sh = [] := q; have := hp.length_eq; rw [q] at this; exact List.eq_nil_of_length_eq_zero this.symm), by show (sh.length : Int) ≤ _; rw [hp.length_eq]; exact h.le, (hp.map _).symm, fun p q => h.pk p (hp.mem_iff.mp q)⟩
  · obtain ⟨s, h1, h2, h3⟩ := h.st i f hf
    refine ⟨s, h1, h2, ?_⟩
    rw [h3]
    have : ((picksO (fo ++ [(sh, ps.map Prod.fst)]) ++ []).map Prod.snd).count (i : Int) = ((picksO fo ++ ps).map Prod.snd).count (i : Int) := by
      rw [List.append_nil, picksO_app]
      simp only [List.map_append, List.count_append]
      have : ((picksO [(sh, ps.map Prod.fst)]).map Prod.snd).count (i : Int) = (ps.map Prod.snd).count (i : Int) := by
        simp only [picksO, List.flatMap_cons, List.flatMap_nil, List.append_nil]
        exact (hp.map _).count_eq _
      rw [this]
    rw [this]
theorem PSt.right {j : Jb} {es : List Int} {fo : List Tr} {ou st : List Int} (h : PSt j es fo [] ou st) (hn : es.Nodup) : Right j fo := by
  have e : laysO fo ++ ([] : List (Int × Int)).map Prod.fst = laysO fo := by simp
  refine ⟨h.tr, by rw [← e]; exact h.sub.nodup hn, by rw [← e]; exact h.to, fun i f hf => ?_⟩
  obtain ⟨s, h1, h2, h3⟩ := h.st i f hf
  rw [List.append_nil] at h3
  unfold usedO
  omega
theorem Right.nil (j : Jb) (h : ∀ f ∈ j.fs, 0 ≤ f.m) : Right j [] := ⟨by simp, List.nodup_nil, Topo.nil _, fun i f hf => by
  have := h f (List.mem_of_getElem? hf)
  simpa [usedO, picksO] using this⟩
/-! ### zip, slices, sums of lists, typed -/
section
variable {α β : Type} {v : α → PyData} {w : β → PyData} {S : Sto}
def vZ (v : α → PyData) (w : β → PyData) (p : α × β) : PyData := .tuple [v p.1, w p.2]
theorem zipD_zip : ∀ (xs : List α) (ys : List β), zipD (xs.map v) (ys.map w) = (xs.zip ys).map (vZ v w)
  | [], ys => by simp [zipD]
  | x :: xs, [] => by simp [zipD]
  | x :: xs, y :: ys => by
    simp only [List.map_cons, zipD, List.zip_cons_cons, zipD_zip xs ys]
    rfl
theorem g2z {p : α × β} {r : Gs} {ρ : Rho} : gTu 2 r (.d (vZ v w p)) ρ S = r [.d (v p.1), .d (w p.2)] ρ S := rfl
theorem cut_map {lo hi : Option Int} {xs : List α} (v : α → PyData) : cutG (xs.map v) lo hi = (cutG xs lo hi).map v := by
  unfold cutG
  rw [List.length_map, List.map_take, List.map_drop]
theorem drop_V {xs : List α} {n : Nat} (v : α → PyData) : (xs.map v).drop n = (xs.drop n).map v := List.map_drop.symm
theorem cut_1 {xs : List α} : cutG xs (some 1) none = xs.drop 1 := cut_from (by decide)
theorem add_V {xs ys : List α} (h : xs.length + ys.length ≤ 16777216) : gAdd .D (.d (.list (xs.map v))) (.d (.list (ys.map v))) S = some (.d (.list ((xs ++ ys).map v)), S) := by
  unfold gAdd alt2 gAddI gI gAddS gAddT gAddL
  simp only [viewS, List.length_map]
  rw [if_pos (by rw [sizeLine_eq]; exact h), ← List.map_append, ← List.map_append]
  exact alloc_D _ _
theorem add_VN {xs ys : List α} (h : xs.length + ys.length ≤ 16777216) : gAdd .N (.d (.list (xs.map v))) (.d (.list (ys.map v))) S = some (.c S.length, S ++ [tc v (xs ++ ys)]) := by
  unfold gAdd alt2 gAddI gI gAddS gAddT gAddL
  simp only [viewS, List.length_map]
  rw [if_pos (by rw [sizeLine_eq]; exact h), ← List.map_append, ← List.map_append]
  exact alloc_N _ _
theorem add_1V {x : α} {ys : List α} (h : ys.length < 16777216) : gAdd .D (.d (.list [v x])) (.d (.list (ys.map v))) S = some (.d (.list ((x :: ys).map v)), S) := add_V (xs := [x]) (by simp; omega)
theorem add_V1 {xs : List α} {y : α} (h : xs.length < 16777216) : gAdd .D (.d (.list (xs.map v))) (.d (.list [v y])) S = some (.d (.list ((xs ++ [y]).map v)), S) := add_V (ys := [y]) (by simp; omega)
theorem add_V1N {xs : List α} {y : α} (h : xs.length < 16777216) : gAdd .N (.d (.list (xs.map v))) (.d (.list [v y])) S = some (.c S.length, S ++ [tc v (xs ++ [y])]) := add_VN (ys := [y]) (by simp; omega)
theorem sum_V {xs : List Int} : gSum [.d (.list (xs.map .int))] S = some (.d (.int xs.sum), S) := q_sumD xs
end
/-! ### ways, stops -/
def fpl (j : Jb) (i : Int) : Int × Int := ((atI j.fs i).map Fd.pl).getD (0, 0)
def ppl (j : Jb) (x : Int) : Int × Int := ((atI j.ps x).map Pt.pl).getD (0, 0)
def stopsT (j : Jb) (t : Tr) : List (Int × Int) := j.gate :: (t.1.map fun p => fpl j p.2) ++ (t.2.map (ppl j)) ++ [j.gate]
def ab (i : Int) : Int := if i < 0 then -i else i
def mx (i j : Int) : Int := if j > i then j else i
def way (p q : Int × Int) : Int := mx (ab (p.1 - q.1)) (ab (p.2 - q.2))
def wayL (xs : List (Int × Int)) : Int := ((xs.zip (xs.drop 1)).map fun z => way z.1 z.2).sum
structure TrIn (j : Jb) (t : Tr) : Prop where
  pk : ∀ p ∈ t.1, ∃ f, 0 ≤ p.2 ∧ atI j.fs p.2 = some f
  la : ∀ x ∈ t.2, ∃ q, 0 ≤ x ∧ atI j.ps x = some q
  l1 : t.1.length ≤ 1000
  l2 : t.2.length ≤ 1000
theorem TrOk.in {j : Jb} {t : Tr} (h : TrOk j t) (hh : j.heads ≤ 1000) : TrIn j t := by
  have := h.le
  have hl := h.lay.length_eq
  rw [List.length_map] at hl
  refine ⟨fun p hp => ?_, fun x hx => ?_, by omega, by omega⟩
  · obtain ⟨q, f, _, _, h1, h2, _⟩ := h.pk p hp
    exact ⟨f, h1, h2⟩
  · obtain ⟨p, hp, rfl⟩ := List.mem_map.mp (h.lay.mem_iff.mp hx)
    obtain ⟨q, f, h1, h2, _⟩ := h.pk p hp
    exact ⟨q, h1, h2⟩
theorem w_mt0 {g : Val → List Val → Sto → Option (Val × Sto)} {fo : Ef} {ρ : Rho} {S : Sto} : eMt0 g fo ρ S = bnd (fo ρ S) fun o S1 => if (viewL S1 o).isSome = true then g o [] S1 else none := rfl
theorem tc_rev {α : Type} {v : α → PyData} {S : Sto} {k : Nat} {xs : List α} (ha : S[k]? = some (tc v xs)) : gReverse (.c k) [] S = some (.d .none, S.set k (tc v xs.reverse)) := by
  have ha' : S[k]? = some (.lst ((xs.map v).map Val.d)) := ha
  unfold gReverse
  simp only [ha']
  rw [← List.map_reverse, ← List.map_reverse]
end QL

namespace QL
open PySem PySem.Spec PyProof.Rows L2
/-! ### the steps in bundles -/
theorem st0 : type_of% (And.intro @w_nil (And.intro @w_ret (And.intro @w_expr (And.intro @w_asg (And.intro @x_par (And.intro @kPar_eq (And.intro @Bool.false_xor (And.intro @Bool.true_xor (And.intro @w_for (And.intro @w_c (And.intro @w_bin (And.intro @w_aNil (And.intro @w_aCons (And.intro @w_cb (And.intro @w_call (And.intro @w_tst (And.intro @w_not (And.intro @w_and (And.intro @w_or (And.intro @w_eif (And.intro @w_frzE (And.intro @x_eAnd (And.intro @x_eOr (And.intro @bif2_d (And.intro @w_eNot (And.intro @w_eNeg (And.intro @x_chain (And.intro @w_mt (And.intro @w_isi @w_lst))))))))))))))))))))))))))))) := And.intro @w_nil (And.intro @w_ret (And.intro @w_expr (And.intro @w_asg (And.intro @x_par (And.intro @kPar_eq (And.intro @Bool.false_xor (And.intro @Bool.true_xor (And.intro @w_for (And.intro @w_c (And.intro @w_bin (And.intro @w_aNil (And.intro @w_aCons (And.intro @w_cb (And.intro @w_call (And.intro @w_tst (And.intro @w_not (And.intro @w_and (And.intro @w_or (And.intro @w_eif (And.intro @w_frzE (And.intro @x_eAnd (And.intro @x_eOr (And.intro @bif2_d (And.intro @w_eNot (And.intro @w_eNeg (And.intro @x_chain (And.intro @w_mt (And.intro @w_isi @w_lst))))))))))))))))))))))))))))
theorem st1 : type_of% (And.intro @w_tup (And.intro @w_eSl (And.intro @w_oSo (And.intro @w_oNo (And.intro @wp_some (And.intro @wp_bnd (And.intro @wp_map (And.intro @wpS_some (And.intro @bnd_some (And.intro @kSeq_nx (And.intro @kSeq_rt (And.intro @kSeq_bk (And.intro @kSeq_ct (And.intro @q_addI (And.intro @q_sub (And.intro @q_lt (And.intro @q_gt (And.intro @q_ge (And.intro @q_le (And.intro @q_eqI (And.intro @q_neI (And.intro @q_abs (And.intro @q_max (And.intro @q_min (And.intro @q_intI (And.intro @q_intB (And.intro @q_lenL (And.intro @q_lenT (And.intro @q_ixL @q_ixT))))))))))))))))))))))))))))) := And.intro @w_tup (And.intro @w_eSl (And.intro @w_oSo (And.intro @w_oNo (And.intro @wp_some (And.intro @wp_bnd (And.intro @wp_map (And.intro @wpS_some (And.intro @bnd_some (And.intro @kSeq_nx (And.intro @kSeq_rt (And.intro @kSeq_bk (And.intro @kSeq_ct (And.intro @q_addI (And.intro @q_sub (And.intro @q_lt (And.intro @q_gt (And.intro @q_ge (And.intro @q_le (And.intro @q_eqI (And.intro @q_neI (And.intro @q_abs (And.intro @q_max (And.intro @q_min (And.intro @q_intI (And.intro @q_intB (And.intro @q_lenL (And.intro @q_lenT (And.intro @q_ixL @q_ixT))))))))))))))))))))))))))))
theorem st2 : type_of% (And.intro @q_gN (And.intro @q_gsNil (And.intro @w_gsCons (And.intro @w_gSub2 (And.intro @q_frzD (And.intro @decide_eq_true_eq (And.intro @decide_eq_false_iff_not (And.intro @decide_true (And.intro @decide_false (And.intro @Bool.false_eq_true (And.intro @true_implies (And.intro @false_implies (And.intro @and_true (And.intro @true_and (And.intro @w_mulI (And.intro @w_modI (And.intro @w_divI (And.intro @w_divmod (And.intro @w_pow (And.intro @at_0 (And.intro @at_1 (And.intro @at_2 (And.intro @false_and (And.intro @or_false (And.intro @PyData.int.injEq (And.intro @wp_none (And.intro @wpS_none (And.intro @imp_false (And.intro @Decidable.not_not @sizeLine_eq))))))))))))))))))))))))))))) := And.intro @q_gN (And.intro @q_gsNil (And.intro @w_gsCons (And.intro @w_gSub2 (And.intro @q_frzD (And.intro @decide_eq_true_eq (And.intro @decide_eq_false_iff_not (And.intro @decide_true (And.intro @decide_false (And.intro @Bool.false_eq_true (And.intro @true_implies (And.intro @false_implies (And.intro @and_true (And.intro @true_and (And.intro @w_mulI (And.intro @w_modI (And.intro @w_divI (And.intro @w_divmod (And.intro @w_pow (And.intro @at_0 (And.intro @at_1 (And.intro @at_2 (And.intro @false_and (And.intro @or_false (And.intro @PyData.int.injEq (And.intro @wp_none (And.intro @wpS_none (And.intro @imp_false (And.intro @Decidable.not_not @sizeLine_eq))))))))))))))))))))))))))))
theorem st3 : type_of% (And.intro @not_true_eq_false (And.intro @not_false_eq_true (And.intro @wp_ite (And.intro @w_atD (And.intro @look_d (And.intro @Bool.or_false (And.intro @Bool.false_or (And.intro @Bool.true_or (And.intro @Bool.or_true (And.intro @Bool.and_false (And.intro @Bool.false_and (And.intro @Bool.true_and (And.intro @Bool.and_true (And.intro @q_is (And.intro @q_isnot (And.intro @q_eqB (And.intro @q_neB (And.intro @q_eqS (And.intro @q_neS (And.intro @w_lc (And.intro @zipD_len (And.intro @enumD_len (And.intro @rng_len (And.intro @Int.zero_add (And.intro @kFor_nx (And.intro @kFor_ct (And.intro @kFor_bk (And.intro @kFor_rt (And.intro @w_tu @x_forD))))))))))))))))))))))))))))) := And.intro @not_true_eq_false (And.intro @not_false_eq_true (And.intro @wp_ite (And.intro @w_atD (And.intro @look_d (And.intro @Bool.or_false (And.intro @Bool.false_or (And.intro @Bool.true_or (And.intro @Bool.or_true (And.intro @Bool.and_false (And.intro @Bool.false_and (And.intro @Bool.true_and (And.intro @Bool.and_true (And.intro @q_is (And.intro @q_isnot (And.intro @q_eqB (And.intro @q_neB (And.intro @q_eqS (And.intro @q_neS (And.intro @w_lc (And.intro @zipD_len (And.intro @enumD_len (And.intro @rng_len (And.intro @Int.zero_add (And.intro @kFor_nx (And.intro @kFor_ct (And.intro @kFor_bk (And.intro @kFor_rt (And.intro @w_tu @x_forD))))))))))))))))))))))))))))
theorem st4 : type_of% (And.intro @x_lcD (And.intro @x_jSq (And.intro @x_jZp (And.intro @jZ0_T (And.intro @jZ0_L (And.intro @kR1_eq (And.intro @kR2_eq (And.intro @kEn_eq (And.intro @kEn_T (And.intro @kZp_eq (And.intro @kZp_T (And.intro @x_iR1 (And.intro @x_iR2 (And.intro @x_iEn (And.intro @x_iZp (And.intro @x_iSq (And.intro @it_L (And.intro @it_T (And.intro @x_slL (And.intro @q_slS (And.intro @q_listD (And.intro @q_listN (And.intro @q_listNT (And.intro @q_listDT (And.intro @q_tupL (And.intro @q_tupT (And.intro @PyData.list.injEq (And.intro @PyData.tuple.injEq (And.intro @w_frzM @w_atM))))))))))))))))))))))))))))) := And.intro @x_lcD (And.intro @x_jSq (And.intro @x_jZp (And.intro @jZ0_T (And.intro @jZ0_L (And.intro @kR1_eq (And.intro @kR2_eq (And.intro @kEn_eq (And.intro @kEn_T (And.intro @kZp_eq (And.intro @kZp_T (And.intro @x_iR1 (And.intro @x_iR2 (And.intro @x_iEn (And.intro @x_iZp (And.intro @x_iSq (And.intro @it_L (And.intro @it_T (And.intro @x_slL (And.intro @q_slS (And.intro @q_listD (And.intro @q_listN (And.intro @q_listNT (And.intro @q_listDT (And.intro @q_tupL (And.intro @q_tupT (And.intro @PyData.list.injEq (And.intro @PyData.tuple.injEq (And.intro @w_frzM @w_atM))))))))))))))))))))))))))))
theorem st5 : type_of% (And.intro @jx0 (And.intro @jx1 (And.intro @jx2 (And.intro @jx3 (And.intro @jx4 (And.intro @fx0 (And.intro @fx1 (And.intro @fx2 (And.intro @px0 (And.intro @px1 (And.intro @tx0 (And.intro @tx1 (And.intro @xx0 (And.intro @xx1 (And.intro @g2x (And.intro @g2t (And.intro @g2p (And.intro @g2e (And.intro @g2z (And.intro @g3f (And.intro @cut_map (And.intro @cut_1 (And.intro @sum_V (And.intro @drop_V (And.intro @w_mt0 (And.intro @q_gTu2 (And.intro @q_gTu3 (And.intro @q_mkT0 (And.intro @q_mkT1 @q_mkT2))))))))))))))))))))))))))))) := And.intro @jx0 (And.intro @jx1 (And.intro @jx2 (And.intro @jx3 (And.intro @jx4 (And.intro @fx0 (And.intro @fx1 (And.intro @fx2 (And.intro @px0 (And.intro @px1 (And.intro @tx0 (And.intro @tx1 (And.intro @xx0 (And.intro @xx1 (And.intro @g2x (And.intro @g2t (And.intro @g2p (And.intro @g2e (And.intro @g2z (And.intro @g3f (And.intro @cut_map (And.intro @cut_1 (And.intro @sum_V (And.intro @drop_V (And.intro @w_mt0 (And.intro @q_gTu2 (And.intro @q_gTu3 (And.intro @q_mkT0 (And.intro @q_mkT1 @q_mkT2))))))))))))))))))))))))))))
theorem st6 : type_of% (And.intro @q_mkT3 (And.intro @q_alD0 (And.intro @q_alD1 (And.intro @q_alD2 (And.intro @q_alD3 (And.intro @q_alD4 (And.intro @alloc_N (And.intro @or_true (And.intro @true_or (And.intro @Fl.rt.injEq (And.intro @Val.d.injEq (And.intro @Bool.not_true @Bool.not_false)))))))))))) := And.intro @q_mkT3 (And.intro @q_alD0 (And.intro @q_alD1 (And.intro @q_alD2 (And.intro @q_alD3 (And.intro @q_alD4 (And.intro @alloc_N (And.intro @or_true (And.intro @true_or (And.intro @Fl.rt.injEq (And.intro @Val.d.injEq (And.intro @Bool.not_true @Bool.not_false)))))))))))
end QL

namespace QL
open PySem PySem.Spec PyProof.Rows L2
/-! ### dicts, said -/
section
variable {S : Sto} {ρ : Rho} {Q : Fl → Rho → Sto → Prop} {R : Val → Sto → Prop} {i j : Nat} {x : Int} {ks ms : List Int} {fo fk fx : Ef} {fs : Af} {md : Md}
theorem q_dk : eDK ρ S = some (.c S.length, S ++ [.dk []]) := rfl
theorem q_dt : eDT ρ S = some (.c S.length, S ++ [.dt []]) := rfl
theorem w_dp : QL.wpS (sDp fo fk fx ρ S) Q ↔ wp (fx ρ S) fun x S1 => wp (fo ρ S1) fun o S2 => wp (fk ρ S2) fun k S3 => ∃ S4, dPt S3 o k x = some S4 ∧ Q .nx ρ S4 := by
  unfold sDp
  cases h1 : fx ρ S with
  | none => exact nn QL.wpS_none wp_none
  | some p =>
    obtain ⟨x, S1⟩ := p
    rw [wp_some]
    simp only []
    cases h2 : fo ρ S1 with
    | none => exact nn QL.wpS_none wp_none
    | some p =>
      obtain ⟨o, S2⟩ := p
      rw [wp_some]
      simp only []
      cases h3 : fk ρ S2 with
      | none => exact nn QL.wpS_none wp_none
      | some p =>
        obtain ⟨k, S3⟩ := p
        rw [wp_some]
        simp only []
        cases h4 : dPt S3 o k x with
        | none => exact nn QL.wpS_none (by rintro ⟨_, e, _⟩; cases e)
        | some S4 =>
          refine (QL.wpS_some (Q := Q)).trans ⟨fun q => ⟨S4, rfl, q⟩, ?_⟩
          rintro ⟨_, e, q⟩
          cases e
          exact q
def kMd (g : Val → List Val → Sto → Option (Val × Sto)) (fs : Af) (ρ : Rho) (o : Val) (S1 : Sto) : Option (Val × Sto) := match o with
  | .c i => match S1[i]? with
    | some (.dk _) => bnd (fs ρ S1) fun as S2 => g o as S2
    | _ => none
  | _ => none
theorem w_md {g : Val → List Val → Sto → Option (Val × Sto)} : eMd g fo fs ρ S = bnd (fo ρ S) (kMd g fs ρ) := rfl
/-- a dict whose keys alone count -/
abbrev ck (ks : List Int) : Cell := .dk (ks.map fun x => (Sum.inl x, Val.d (.bool true)))
theorem kMd_ck {g : Val → List Val → Sto → Option (Val × Sto)} (h : S[i]? = some (ck ks)) : kMd g fs ρ (.c i) S = bnd (fs ρ S) fun as S2 => g (.c i) as S2 := by
  unfold kMd
  simp only [h]
theorem lk_ck : lkQ (κ := L2.Key) (ks.map fun x => (Sum.inl x, Val.d (.bool true))) (.inl x) = if x ∈ ks then some (.d (.bool true)) else none := by
  unfold lkQ
  induction ks with
  | nil => rfl
  | cons y ks ih =>
    rw [List.map_cons, List.find?_cons]
    by_cases e : y = x
    · subst e
      simp
    · have h1 : decide ((Sum.inl y : L2.Key) = .inl x) = false := decide_eq_false (fun z => e (Sum.inl.inj z))
      rw [h1, ih]
      have h2 : x ∈ y :: ks ↔ x ∈ ks := by simp [Ne.symm e]
      by_cases h3 : x ∈ ks
      · rw [if_pos h3, if_pos (h2.mpr h3)]
      · rw [if_neg h3, if_neg (fun z => h3 (h2.mp z))]
theorem dl_ck (h : S[i]? = some (ck ks)) : dLk S (.c i) (.d (.int x)) = some (if x ∈ ks then some (.d (.bool true)) else none) := by
  unfold dLk
  simp only [h]
  show some (lkQ _ (Sum.inl x)) = _
  rw [lk_ck]
theorem din_ck {neg : Bool} (h : S[i]? = some (ck ks)) : gDin neg (.d (.int x)) (.c i) S = some (.d (.bool (xor neg (decide (x ∈ ks)))), S) := by
  unfold gDin
  rw [dl_ck h]
  by_cases hx : x ∈ ks
  · simp [hx]
  · simp [hx]
/-- keys with one more -/
def addK (ks : List Int) (x : Int) : List Int := if x ∈ ks then ks else ks ++ [x]
theorem put_ck : putQ (κ := L2.Key) (ks.map fun x => (Sum.inl x, Val.d (.bool true))) (.inl x) (.d (.bool true)) = (addK ks x).map fun x => (Sum.inl x, Val.d (.bool true)) := by
  unfold putQ addK
  have h1 : (ks.map fun x => ((Sum.inl x : L2.Key), Val.d (.bool true))).any (fun p => decide (p.1 = .inl x)) = decide (x ∈ ks) := by
    rw [Bool.eq_iff_iff, List.any_eq_true, decide_eq_true_eq]
    constructor
    · rintro ⟨p, hp, e⟩
      obtain ⟨y, hy, rfl⟩ := List.mem_map.mp hp
      have := Sum.inl.inj (of_decide_eq_true e)
      rw [← this]
      exact hy
    · exact fun h => ⟨_, List.mem_map.mpr ⟨x, h, rfl⟩, decide_eq_true rfl⟩
  rw [h1]
  by_cases hx : x ∈ ks
  · rw [if_pos (decide_eq_true hx), if_pos hx, List.map_map]
    refine List.map_congr_left fun y _ => ?_
    show (if (Sum.inl y : L2.Key) = .inl x then ((Sum.inl y : L2.Key), Val.d (.bool true)) else (Sum.inl y, Val.d (.bool true))) = _
    split <;> rfl
  · rw [if_neg (by simpa using hx), if_neg hx, List.map_append]
    rfl
theorem dpt_ck (h : S[i]? = some (ck ks)) (hz : ks.length < 16777216) : dPt S (.c i) (.d (.int x)) (.d (.bool true)) = some (S.set i (ck (addK ks x))) := by
  unfold dPt
  simp only [h]
  rw [if_pos (by rw [List.length_map]; exact hz)]
  show some (S.set i (.dk (putQ _ (Sum.inl x) _))) = _
  rw [put_ck]
def addAll (ks ms : List Int) : List Int := ms.foldl addK ks
theorem addK_mem {y : Int} : y ∈ addK ks x ↔ y ∈ ks ∨ y = x := by
  unfold addK
  split
  · rename_i h
    exact ⟨.inl, fun z => by rcases z with z | rfl <;> assumption⟩
  · simp
theorem addK_nd (h : ks.Nodup) : (addK ks x).Nodup := by
  unfold addK
  split
  · exact h
  · rename_i hx
    exact List.nodup_append.mpr ⟨h, by simp, fun a ha b hb e => hx (by rw [List.mem_singleton.mp hb] at e; rw [← e]; exact ha)⟩
theorem addK_len : (addK ks x).length ≤ ks.length + 1 := by
  unfold addK
  split <;> simp
theorem addAll_mem : ∀ {ms ks : List Int} {y : Int}, y ∈ addAll ks ms ↔ y ∈ ks ∨ y ∈ ms
  | [], ks, y => by simp [addAll]
  | m :: ms, ks, y => by
    show y ∈ addAll (addK ks m) ms ↔ _
    rw [addAll_mem, addK_mem, List.mem_cons]
    exact or_assoc
theorem addAll_nd : ∀ {ms ks : List Int}, ks.Nodup → (addAll ks ms).Nodup
  | [], _, h => h
  | m :: ms, ks, h => addAll_nd (ms := ms) (ks := addK ks m) (addK_nd h)
theorem addAll_len : ∀ {ms ks : List Int}, (addAll ks ms).length ≤ ks.length + ms.length
  | [], ks => by simp [addAll]
  | m :: ms, ks => by
    have h1 : (addAll (addK ks m) ms).length ≤ _ := addAll_len
    have h2 := addK_len (ks := ks) (x := m)
    show (addAll (addK ks m) ms).length ≤ _
    rw [List.length_cons]
    omega
theorem mrg_ck : ∀ {ms ks : List Int}, mrgQ (κ := L2.Key) (ks.map fun x => (Sum.inl x, Val.d (.bool true))) (ms.map fun x => (Sum.inl x, Val.d (.bool true))) = (addAll ks ms).map fun x => (Sum.inl x, Val.d (.bool true))
  | [], ks => rfl
  | m :: ms, ks => by
    show mrgQ (putQ (κ := L2.Key) (ks.map fun x => (Sum.inl x, Val.d (.bool true))) (.inl m) (.d (.bool true))) (ms.map fun x => (Sum.inl x, Val.d (.bool true))) = _
    rw [put_ck]
    exact mrg_ck (ms := ms) (ks := addK ks m)
theorem upd_ck (h : S[i]? = some (ck ks)) (h' : S[j]? = some (ck ms)) (hij : i ≠ j) (hz : ks.length + ms.length ≤ 16777216) : gUpd (.c i) [.c j] S = some (.d .none, S.set i (ck (addAll ks ms))) := by
  unfold gUpd
  simp only [h, h', if_pos hij]
  rw [if_pos (by rw [List.length_map, List.length_map]; exact hz), mrg_ck]
theorem keys_ck : (ks.map fun x => ((Sum.inl x : L2.Key), Val.d (.bool true))).map (fun p => unK p.1) = ks.map .int := by
  rw [List.map_map]
  exact List.map_congr_left fun x _ => rfl
theorem list_ck (h : S[i]? = some (ck ks)) : gListA .D [.c i] S = some (.d (.list (ks.map .int)), S) := by
  have e : gList .D [.c i] S = none := by
    unfold gList viewQ viewL viewS
    simp only [h]
  unfold gListA altC
  rw [e]
  unfold gListD
  simp only [h]
  have e2 : (ks.map fun x => ((Sum.inl x : L2.Key), Val.d (.bool true))).map (fun p => Val.d (unK p.1)) = (ks.map .int).map .d := by
    rw [← keys_ck, List.map_map, List.map_map, List.map_map]
    rfl
  rw [e2]
  exact alloc_V _
theorem prs_ck {α : Type} (f : α → Int) : ∀ xs : List α, mapO pairQ (xs.map fun e => PyData.tuple [.int (f e), .bool true]) = some ((xs.map f).map fun x => ((Sum.inl x : L2.Key), Val.d (.bool true)))
  | [] => rfl
  | x :: xs => by
    rw [List.map_cons, mapO, prs_ck f xs]
    rfl
theorem dict_ck {α : Type} (f : α → Int) {xs : List α} : gDictP [.d (.list (xs.map fun e => .tuple [.int (f e), .bool true]))] S = some (.c S.length, S ++ [ck (addAll [] (xs.map f))]) := by
  unfold gDictP
  simp only [viewS, unD_d, prs_ck]
  have := mrg_ck (ks := []) (ms := xs.map f)
  rw [List.map_nil] at this
  rw [this]
/-! ### sorted, said -/
def srtI (xs : List Int) : List Int := xs.mergeSort fun a b => decide (a ≤ b)
theorem srtI_perm (xs : List Int) : (srtI xs).Perm xs := List.mergeSort_perm _ _
theorem srtI_sorted (xs : List Int) : (srtI xs).Pairwise (· ≤ ·) := by
  have := List.pairwise_mergeSort (le := fun a b : Int => decide (a ≤ b)) (fun a b c h1 h2 => by
    have := of_decide_eq_true h1
    have := of_decide_eq_true h2
    exact decide_eq_true (by omega)) (fun a b => by
    by_cases h : a ≤ b
    · simp [h]
    · have : b ≤ a := by omega
      simp [this]) xs
  exact this.imp fun h => of_decide_eq_true h
theorem srt_uniq {xs ys : List Int} (hp : xs.Perm ys) (h1 : xs.Pairwise (· ≤ ·)) (h2 : ys.Pairwise (· ≤ ·)) : xs = ys :=
  hp.eq_of_pairwise (fun a b _ _ h3 h4 => by omega) h1 h2
theorem srtI_eq {xs ys : List Int} (hp : ys.Perm xs) (h : ys.Pairwise (· ≤ ·)) : srtI xs = ys := srt_uniq ((srtI_perm xs).trans hp.symm) (srtI_sorted xs) h
theorem srtI_congr {xs ys : List Int} (hp : xs.Perm ys) : srtI xs = srtI ys := srtI_eq ((srtI_perm ys).trans hp.symm) (srtI_sorted ys)
theorem srtI_mem {xs : List Int} {y : Int} : y ∈ srtI xs ↔ y ∈ xs := (srtI_perm xs).mem_iff
theorem sortD_int (xs : List Int) : sortD (xs.map .int) = (srtI xs).map .int := by
  unfold sortD srtI
  refine (List.map_mergeSort fun a _ b _ => ?_).symm
  have := congrFun (congrFun (PySem.W.dataLe_int (β := Int) id) a) b
  exact this.symm
theorem sok_int (xs : List Int) : SortOk (xs.map .int) := by
  refine ⟨PySem.W.AllAlike.of fun b b' => by simp [PySem.W.alike], PySem.W.Sortable.others fun b => ⟨fun h => (nomatch h), fun xs h => (nomatch h)⟩, fun d hd => ?_⟩
  obtain ⟨x, _, rfl⟩ := List.mem_map.mp hd
  exact Nat.zero_le _
theorem sort_src {a : Val} {ds : List PyData} (h : srcQ S a = some ds) (k : SortOk ds) : gSortG md [a] S = alloc md ((sortD ds).map .d) S := by
  unfold gSortG
  simp only [h]
  rw [if_pos k]
theorem src_T {ds : List PyData} : srcQ S (.d (.tuple ds)) = some ds := rfl
theorem src_L {ds : List PyData} : srcQ S (.d (.list ds)) = some ds := by
  show (viewS S (.d (.list ds))).bind unD = _
  rw [viewS_d]
  exact unD_d ds
theorem src_tc {α : Type} {v : α → PyData} {xs : List α} (h : S[i]? = some (tc v xs)) : srcQ S (.c i) = some (xs.map v) := by
  unfold srcQ
  simp only [h]
  rw [viewS_c h]
  exact unD_d _
theorem src_ck (h : S[i]? = some (ck ks)) : srcQ S (.c i) = some (ks.map .int) := by
  unfold srcQ
  simp only [h]
  rw [keys_ck]
theorem sort_D {a : Val} {xs : List Int} (h : srcQ S a = some (xs.map .int)) : gSortG .D [a] S = some (.d (.list ((srtI xs).map .int)), S) := by
  rw [sort_src h (sok_int xs), sortD_int]
  exact alloc_V _
theorem sort_N {a : Val} {xs : List Int} (h : srcQ S a = some (xs.map .int)) : gSortG .N [a] S = some (.c S.length, S ++ [tc .int (srtI xs)]) := by
  rw [sort_src h (sok_int xs), sortD_int]
  exact alloc_W _
theorem sok_x (xs : List (Int × Int)) : SortOk (xs.map vx) := by
  refine ⟨PySem.W.AllAlike.of fun b b' => by simp [PySem.W.alike, PySem.W.alikeAll, vx], PySem.W.Sortable.tuples fun b => ⟨_, _, rfl⟩, fun d hd => ?_⟩
  obtain ⟨x, _, rfl⟩ := List.mem_map.mp hd
  have := encX.dp x
  omega
theorem sort_X {a : Val} {xs : List (Int × Int)} (h : srcQ S a = some (xs.map vx)) : ∃ ys : List (Int × Int), ys.Perm xs ∧ gSortG .D [a] S = some (.d (.list (ys.map vx)), S) := by
  have hp : (sortD (xs.map vx)).Perm (xs.map vx) := List.mergeSort_perm _ _
  obtain ⟨ys, e, hy⟩ := perm_lift hp xs rfl
  refine ⟨ys, hy, ?_⟩
  rw [sort_src h (sok_x xs), e]
  exact alloc_V _
theorem tc_pop {α : Type} {v : α → PyData} {xs : List α} {x : α} (h : S[i]? = some (tc v (xs ++ [x]))) : gPop (.c i) [] S = some (.d (v x), S.set i (tc v xs)) := by
  have h' : S[i]? = some (.lst (((xs ++ [x]).map v).map Val.d)) := h
  unfold gPop
  simp only [h']
  have e1 : (((xs ++ [x]).map v).map Val.d)[(((xs ++ [x]).map v).map Val.d).length - 1]? = some (.d (v x)) := by simp
  rw [e1]
  simp only [List.map_append, List.map_cons, List.map_nil, List.dropLast_concat]
end
/-- a def that leaves all it made -/
theorem w_fnA {nN : Nat} {fb : Sf} {as : List Val} {S : Sto} {R : Val → Sto → Prop} (h : QL.wpS (fb (initR nN as) S) fun fl _ S1 => ∃ r, (fl = .rt r ∨ (fl = .nx ∧ r = .d .none)) ∧ R r S1) : wp (φall nN fb as S) R := by
  obtain ⟨fl, ρ, S1, e, r, hf, q⟩ := h
  rcases hf with rfl | ⟨rfl, rfl⟩
  · exact ⟨r, S1, by unfold φall; simp only [e], q⟩
  · exact ⟨_, S1, by unfold φall; simp only [e], q⟩
end QL

namespace QL
open PySem PySem.Spec PyProof.Rows L2
/-! ### more steps -/
theorem w_augS {g : Val → Val → Sto → Option (Val × Sto)} {fo fi fe : Ef} {ρ : Rho} {S : Sto} {Q : Fl → Rho → Sto → Prop} : QL.wpS (sAugS g fo fi fe ρ S) Q ↔ wp (fo ρ S) fun o S1 => wp (fi ρ S1) fun i S2 => wp (gIx o i S2) fun x S3 => wp (fe ρ S3) fun y S4 => wp (g x y S4) fun z S5 => ∃ S6, setIx o i z S5 = some S6 ∧ Q .nx ρ S6 := by
  unfold sAugS
  cases h : fo ρ S with
  | none => exact nn QL.wpS_none wp_none
  | some p =>
    rw [show (some p : Option (Val × Sto)) = some (p.1, p.2) from rfl, wp_some]
    dsimp only
    cases h2 : fi ρ p.2 with
    | none => exact nn QL.wpS_none wp_none
    | some p2 =>
      rw [show (some p2 : Option (Val × Sto)) = some (p2.1, p2.2) from rfl, wp_some]
      dsimp only
      cases h3 : gIx p.1 p2.1 p2.2 with
      | none => exact nn QL.wpS_none wp_none
      | some p3 =>
        rw [show (some p3 : Option (Val × Sto)) = some (p3.1, p3.2) from rfl, wp_some]
        dsimp only
        cases h4 : fe ρ p3.2 with
        | none => exact nn QL.wpS_none wp_none
        | some p4 =>
          rw [show (some p4 : Option (Val × Sto)) = some (p4.1, p4.2) from rfl, wp_some]
          dsimp only
          cases h5 : g p3.1 p4.1 p4.2 with
          | none => exact nn QL.wpS_none wp_none
          | some p5 =>
            rw [show (some p5 : Option (Val × Sto)) = some (p5.1, p5.2) from rfl, wp_some]
            dsimp only
            cases h6 : setIx p.1 p2.1 p5.1 p5.2 with
            | none => exact nn QL.wpS_none (by rintro ⟨_, q, _⟩; cases q)
            | some S6 =>
              refine QL.wpS_some.trans ⟨fun h => ⟨S6, rfl, h⟩, ?_⟩
              rintro ⟨_, q, h⟩
              cases q
              exact h

theorem x_slT {md : Md} {ds : List PyData} {lo hi : Option Int} {S : Sto} : gSl md (.d (.tuple ds)) lo hi S = some (.d (.tuple (cutG ds lo hi)), S) := rfl
theorem add_TV {α : Type} {v : α → PyData} {md : Md} {S : Sto} {xs ys : List α} (h : xs.length + ys.length ≤ 16777216) : gAdd md (.d (.tuple (xs.map v))) (.d (.tuple (ys.map v))) S = some (.d (.tuple ((xs ++ ys).map v)), S) := by
  unfold gAdd alt2 gAddI gI gAddS gAddT
  simp only [List.length_map]
  rw [if_pos (by rw [sizeLine_eq]; exact h), ← List.map_append]
theorem w_allT {G : Gf} {e : Ef} {ρ : Rho} {S : Sto} {ds : List PyData} {R : Val → Sto → Prop} (h : ∀ d ∈ ds, wp (G (.d d) ρ S) fun ρ1 S1 => wp (e ρ1 S1) fun r S3 => r = .d (.bool true) ∧ S3 = S) (q : R (.d (.bool true)) S) : wp (lcL G fYes e ρ ds S) fun xs S2 => wp (alloc .D xs S2) fun a S3 => wp (gAll [a] S3) R := by
  have := w_lcX (R := fun xs S2 => wp (alloc .D xs S2) fun a S3 => wp (gAll [a] S3) R) (v := fun d : PyData => d) (fun _ => PyData.bool true) (xs := ds) (G := G) (e := e) (ρ := ρ) (S := S) h (by
    rw [alloc_D, wp_some, q_allT (ds := ds.map fun _ => .bool true) (fun d hd => by obtain ⟨_, _, e⟩ := List.mem_map.mp hd; exact e.symm), wp_some]
    exact q)
  rwa [List.map_id'] at this
theorem lenA_ck {S : Sto} {i : Nat} {ks : List Int} (h : S[i]? = some (ck ks)) : gLenA [.c i] S = some (.d (.int ks.length), S) := by
  unfold gLenA altC gLen gLenD
  simp only [viewL, viewS, h]
  simp
theorem addAll_id : ∀ {ms ks : List Int}, (ks ++ ms).Nodup → addAll ks ms = ks ++ ms
  | [], ks, _ => by simp [addAll]
  | m :: r, ks, h => by
    have hm : m ∉ ks := fun hk => (List.nodup_append.mp h).2.2 m hk m (List.mem_cons_self ..) rfl
    show addAll (addK ks m) r = _
    unfold addK
    rw [if_neg hm, addAll_id (by simpa using h)]
    simp
end QL

namespace QL
open PySem PySem.Spec PyProof.Rows L2
/-! ### set(a list of ints), in the order that sorted can walk -/
section
variable {P : Program} {w : World} {A : Around} {E : Value → Shared → Prop} {s : Shared}
/-- a set's first shape -/
abbrev sob (w : World) : Obj := { cls := .type "set", dict := none, data := .set #[] 0 (.fresh 0 0 (!w.params.followText "set-order")) }
theorem set_of_list {l : Addr} {items : Array Value} (ns : List Int) {Q : Value → Shared → Prop} (hh : A.handled = none) (hl : s.heap.IsList l items) (hit : IntsAre items.toList ns) (hb : ns.length + 1 < scanBound)
    (h : ∀ (h' : Heap) (tk c : Nat), SetR w h' s.heap.objs.size (fun j => decide (j ∈ ns)) c → c ≤ ns.length → (∀ b o, s.heap.get? b = some o → h'.get? b = some o) → Q (.ref s.heap.objs.size) { s with heap := h', toks := tk }) :
    wpAny (model P w) A (call (.type "set") [.ref l]) Q E s := by
  have hsz : items.size = ns.length := by
    have q := IntsAre.length hit
    rw [Array.length_toList] at q
    exact q
  obtain ⟨c, tl, hmro⟩ := F.called_set.mro
  have hmade := F.called_set.made
  have hsub := F.called_set.sub
  refine wpAny_call (codeAny_of_tree ?_)
  show wpAny _ _ (callAny (.type "set") _) _ _ _
  refine wpAny_pure ⟨Code.quiet_builtin _ (by decide +kernel), codeAny_builtin F.entry_type_call ?_⟩
  rw [Around.under_plain (weight_type_call_type "set" [.ref l] []) rfl]
  have h1 := F.called_set.notType
  have h2 := F.called_set.canCreate
  have hct := F.typeCall_set_1 (.ref l)
  repeat (any_goals (first | assumption | wp_step))
  refine codeAny_mono (code_set_led1 (.ref l) (E := E) (Q₁ := fun obj s₁ => obj = .ref s.heap.objs.size ∧ s₁ = { s with heap := s.heap.push (sob w) }) ⟨rfl, rfl⟩) fun r s₁ hr => ?_
  match r, hr with
  | .error e, hr => exact hr
  | .ok (.ret obj), hr =>
    obtain ⟨rfl, rfl⟩ := hr
    have hS : (s.heap.push (sob w)).get? s.heap.objs.size = some (sob w) := Heap.get?_push_size _ rfl
    have hT : Shared.TypeIs { s with heap := s.heap.push (sob w) } (.ref s.heap.objs.size) "set" := ⟨_, hS, rfl⟩
    have hli := F.called_set.init.lookup
    have hbi := F.called_set.init.bind (.ref s.heap.objs.size)
    repeat (any_goals (first | assumption | wp_step))
    refine codeAny_mono (codeAny_call_builtin (R := wants (fun r s₂ => r = .none ∧ ∃ h' tk c, s₂ = { s with heap := h', toks := tk } ∧ SetR w h' s.heap.objs.size (fun j => decide (j ∈ ns)) c ∧ c ≤ ns.length ∧
        (∀ b o, s.heap.get? b = some o → h'.get? b = some o)) E) F.called_set.init.plain F.entry_set_init (check_set_init_1 hT ?_)) fun r₂ s₂ hr₂ => ?_
    · obtain ⟨⟨ocls, odict, odata, oslots⟩, hol, hcl, nl, hdl⟩ := hl
      simp only at hcl hdl
      subst hcl; subst hdl
      have hol' := Heap.get?_push_of_some (sob w) hol
      have hsls := F.sub_list_set
      have hslf := F.sub_list_frozenset
      have hne : (Value.type "list" == Value.type "dict") = false := by decide
      have hl1 : (s.heap.push (sob w)).IsList l items := ⟨_, hol', rfl, nl, rfl⟩
      unfold Builtin.«set.__init__» noKeywords Builtin.Frozenset.updateFrom
      generalize hPI : pyIter = PI
      wp_walk
      subst hPI
      refine wpAny_pyIter_list hl1 ?_
      refine wpAny_bind (wpAny_runValue ?_)
      have hlS : l < s.heap.objs.size := Heap.lt_size hol
      have hh3 : A.in1.in1.in1.handled = none := by simp [hh]
      have hz1 : (s.heap.push (sob w)).objs.size = s.heap.objs.size + 1 := Heap.size_push ..
      have hneI : l ≠ (s.heap.push (sob w)).objs.size := by rw [Heap.size_push]; exact Nat.ne_of_lt (Nat.lt_succ_of_lt hlS)
      have hSf : s.heap.objs.size ∉ [(s.heap.push (sob w)).objs.size, l] := by
        rw [Heap.size_push]
        simp only [List.mem_cons, List.not_mem_nil, or_false, not_or]
        exact ⟨Nat.ne_of_lt (Nat.lt_succ_self _), Nat.ne_of_gt hlS⟩
      have hval : ∀ (i : Nat) (v : Value), items[i]? = some v → ∃ k t, ns[i]? = some k ∧ v = .int k t := fun i v hv => by
        have hi : i < ns.length := by rw [← hsz]; exact (Array.getElem?_eq_some_iff.mp hv).1
        obtain ⟨t, e⟩ := PyProof.Rows.IntsAre.int_at hit i v (by rw [Array.getElem?_toList]; exact hv)
        refine ⟨ns[i], t, List.getElem?_eq_getElem hi, ?_⟩
        rw [e, List.getD_eq_getElem?_getD, List.getElem?_eq_getElem hi] <;> rfl
      refine set_update_ints ((Walks.list hh3 _ l hneI items).toS) s.heap.objs.size
        hSf ns hsz hb hval (items.size - 0) 0 _ (by omega) (Nat.zero_le _)
        ⟨⟨_, Heap.get?_push_size _ rfl, rfl, rfl⟩, (hl1.push _)⟩ ?hS0 ?hR
      case hS0 => exact ⟨0, Nat.le_refl 0, setR_new_at (Heap.get?_push_of_some _ hS)⟩
      case hR =>
        intro s' c' hm hc' hS'
        obtain ⟨h', g2, d', tk', os'⟩ := s'
        have eg : g2 = s.gens := hm.gens
        have ed : d' = s.drawn := hm.drawn
        have eo : os' = s.os := hm.os
        subst eg; subst ed; subst eo
        refine wpAny_pure ?_
        show wpAny _ _ (ret Value.none) _ _ _
        rw [hsz] at hc'
        refine wpAny_pure ⟨rfl, h', tk', c', rfl, hS', hc', fun b o e => ?_⟩
        have hb0 : b < s.heap.objs.size := Heap.lt_size e
        exact hm.heap b o (by simp only [List.mem_cons, List.not_mem_nil, or_false, not_or]; exact ⟨Nat.ne_of_lt hb0, by rw [Heap.size_push]; exact Nat.ne_of_lt (Nat.lt_succ_of_lt hb0)⟩) (Heap.get?_push_of_some _ (Heap.get?_push_of_some _ e))
    · match r₂, hr₂ with
      | .error e, hr₂ => exact hr₂
      | .ok (.ret r), hr₂ =>
        obtain ⟨rfl, h', tk, c', rfl, hS', hc', hk'⟩ := hr₂
        repeat (any_goals (first | assumption | wp_step))
        exact h _ _ _ hS' hc' hk'
end
end QL

namespace QL
open PySem PySem.Spec PyProof.Rows L2
/-! ### str and repr of anything -/
def strT : PyData → Str
  | .str x => x
  | d => d.shown
section
variable {X : Cx}
def rStrX (K : PySem.W.Frag) (f : PyData → Str) : List V → Hp → VK → Prop := fun xs H Q => ∃ x d, xs = [x] ∧ Rp K H d x ∧ d.showable = true ∧ d.hasDict = false ∧ d.depth ≤ 60 ∧ d.shown.length ≤ sizeLine ∧ Q (.str (f d)) H
theorem seq_ref {K : PySem.W.Frag} {H : Hp} {d : PyData} {x : V} (hs : isSeq d = true) (hd : Rp K H d x) : ∃ p, x = .ref p := by
  cases d with
  | list ds => obtain ⟨p, _, e, _⟩ := rp_list.mp hd; exact ⟨p, e⟩
  | tuple ds => obtain ⟨p, _, e, _⟩ := rp_tuple.mp hd; exact ⟨p, e⟩
  | _ => cases hs
theorem call_strX {k : Nat} (hr : RoomG k X.A) : CallR X (.type "str") (rStrX X.K strT) := by
  intro pins s σ H xs us Q I rs h
  obtain ⟨x, d, rfl, hd, h1, h2, h3, h4, q⟩ := h
  obtain ⟨u, rfl, ru⟩ := vals1 rs
  cases hs : isSeq d with
  | true =>
    obtain ⟨as, r1⟩ := Dp.reads I d x u (rp_dp d x hd) ru
    have hu : X.A.units + (d.depth + 3) < cLine := by have := hr.room.un; omega
    obtain ⟨p, rfl⟩ := seq_ref hs hd
    cases ru
    have q' : Q (.str d.shown) H := by cases d <;> first | exact q | cases hs
    exact PySem.str_of_reads r1 h1 (PyData.noDict_hsm h2) hr.gd hu (fun _ _ z => z) (fun h' w tk hk => ⟨.str d.shown, H, I.kept hk, ⟨w, rfl⟩, q'⟩) h4
  | false =>
    cases d with
    | none =>
      cases rp_none.mp hd
      cases ru
      exact PySem.P.str_of_none ⟨.str _, H, I.tok _, ⟨_, rfl⟩, q⟩
    | bool b =>
      cases rp_bool.mp hd
      cases ru
      exact PySem.P.str_of_bool ⟨.str _, H, I.tok _, ⟨_, rfl⟩, q⟩
    | int i =>
      cases rp_int.mp hd
      obtain ⟨t, rfl⟩ := ru
      exact PySem.P.str_of_int (of_decide_eq_true h1) ⟨.str _, H, I.tok _, ⟨_, rfl⟩, q⟩
    | str z =>
      cases rp_str.mp hd
      obtain ⟨t, rfl⟩ := ru
      exact PySem.P.str_of_str ⟨.str _, H, I, ⟨_, rfl⟩, q⟩
    | list => cases hs
    | tuple => cases hs
    | dict => exact (rp_dict.mp hd).elim
theorem call_repX {k : Nat} (hr : RoomG k X.A) : CallR X (.builtin "repr") (rStrX X.K PyData.shown) := by
  intro pins s σ H xs us Q I rs h
  obtain ⟨x, d, rfl, hd, h1, h2, h3, h4, q⟩ := h
  obtain ⟨u, rfl, ru⟩ := vals1 rs
  cases hs : isSeq d with
  | true =>
    obtain ⟨as, r1⟩ := Dp.reads I d x u (rp_dp d x hd) ru
    have hu : X.A.units + (d.depth + 1) < cLine := by have := hr.room.un; omega
    obtain ⟨p, rfl⟩ := seq_ref hs hd
    cases ru
    exact PySem.repr_of_reads' r1 h1 (PyData.noDict_hsm h2) hr.gd hu (fun _ _ z => z) (fun h' w tk hk => ⟨.str d.shown, H, I.kept hk, ⟨w, rfl⟩, q⟩) h4
  | false =>
    cases d with
    | none =>
      cases rp_none.mp hd
      cases ru
      exact PySem.P.repr_of_none ⟨.str _, H, I.tok _, ⟨_, rfl⟩, q⟩
    | bool b =>
      cases rp_bool.mp hd
      cases ru
      exact PySem.P.repr_of_bool ⟨.str _, H, I.tok _, ⟨_, rfl⟩, q⟩
    | int i =>
      cases rp_int.mp hd
      obtain ⟨t, rfl⟩ := ru
      exact PySem.P.repr_of_int (of_decide_eq_true h1) ⟨.str _, H, I.tok _, ⟨_, rfl⟩, q⟩
    | str z =>
      cases rp_str.mp hd
      obtain ⟨t, rfl⟩ := ru
      exact PySem.P.repr_of_str ⟨.str _, H, I.tok _, ⟨_, rfl⟩, q⟩ h4
    | list => cases hs
    | tuple => cases hs
    | dict => exact (rp_dict.mp hd).elim
def gTxt (f : PyData → Str) : List Val → Sto → Option (Val × Sto) := fun as S => match as with
  | [a] => match look S a with
    | some d => if d.showable = true ∧ d.hasDict = false ∧ d.depth ≤ 60 ∧ d.shown.length ≤ sizeLine then some (.d (.str (f d)), S) else none
    | none => none
  | _ => none
theorem rc_txt {K : PySem.W.Frag} {f : PyData → Str} : RC K (rStrX K f) (gTxt f) := fun F m H S as vs res S' ok rs e Q k => by
  unfold gTxt at e
  split at e
  · rename_i a
    split at e
    · rename_i d hd
      split at e
      · rename_i hz
        cases e
        cases rs with
        | cons r1 t =>
          cases t
          exact ⟨_, d, rfl, look_ok ok hd r1, hz.1, hz.2.1, hz.2.2.1, hz.2.2.2, k.here ok (rv_str.mpr rfl)⟩
      · cases e
    · cases e
  · cases e
theorem cg_strX {k : Nat} (hr : RoomG k X.A) : CallG X (.type "str") (gTxt strT) := ⟨_, call_strX hr, rc_txt⟩
theorem cg_repX {k : Nat} (hr : RoomG k X.A) : CallG X (.builtin "repr") (gTxt PyData.shown) := ⟨_, call_repX hr, rc_txt⟩
/-! ### a text times an int -/
def repS (x : Str) (n : Nat) : Str := ⟨(List.replicate n x.cps).foldl (· ++ ·) #[]⟩
def rMulS : R2 := fun x y H Q => ∃ (z : Str) (k : Int), x = .str z ∧ y = .int k ∧ 2 ≤ k ∧ k ≤ 1000 ∧ z.length ≤ 10000 ∧ Q (.str (repS z k.toNat)) H
theorem repS_list (x : Str) (n : Nat) : (repS x n).cps.toList = (List.replicate n x.cps.toList).flatten := by
  have f0 : ∀ (m : Nat) (acc : Array Nat), ((List.replicate m x.cps).foldl (· ++ ·) acc).toList = acc.toList ++ (List.replicate m x.cps.toList).flatten := fun m => by
    induction m with
    | zero => intro acc; simp
    | succ m ih =>
      intro acc
      rw [List.replicate_succ, List.foldl_cons, ih, List.replicate_succ, List.flatten_cons, Array.toList_append, List.append_assoc]
  have := f0 n #[]
  simpa [repS] using this
theorem repS_len (x : Str) (n : Nat) : (repS x n).length = n * x.length := by
  show (repS x n).cps.size = _
  rw [← Array.length_toList, repS_list]
  simp [List.length_flatten, PySem.Str.length]
theorem op_mulS : OpR X (binaryOp .Mult) rMulS := by
  intro pins s σ H x y v u Q I rx ry h
  obtain ⟨z, k, rfl, rfl, h1, h2, hz, q⟩ := h
  obtain ⟨t, rfl⟩ := rx
  obtain ⟨t', rfl⟩ := ry
  have hle : (repS z k.toNat).length ≤ sizeLine := by
    rw [repS_len, sizeLine_eq]
    have : k.toNat * z.length ≤ 1000 * 10000 := Nat.mul_le_mul (by omega) hz
    omega
  refine PySem.P.mul_str (by rw [decide_eq_false (by omega), decide_eq_false (by omega)]; rfl) (fun _ _ hb => ?_) (fun _ _ => ?_) ?_
  · have h3 : (2 ^ 63 - 1) / 1000 ≤ (2 ^ 63 - 1) / k := by
      refine Int.le_ediv_of_mul_le (by omega) ?_
      have : (2 ^ 63 - 1) / 1000 * k ≤ (2 ^ 63 - 1) / 1000 * 1000 := Int.mul_le_mul_of_nonneg_left h2 (by decide)
      omega
    omega
  · unfold Builtin.Str.tooLong
    have := hle
    rw [repS_len, Nat.mul_comm] at this
    exact decide_eq_false (by omega)
  · rw [if_neg (by omega)]
    by_cases hc : (k == 1 || z.length == 0) = true
    · rw [if_pos hc]
      have h0 : z.length = 0 := by
        have : k ≠ 1 := by omega
        simpa [this] using hc
      have he : repS z k.toNat = z := by
        have h00 : z.cps.toList = [] := List.eq_nil_of_length_eq_zero (by rw [Array.length_toList]; exact h0)
        have : (repS z k.toNat).cps.toList = z.cps.toList := by
          rw [repS_list, h00]
          simp
        have e2 : (repS z k.toNat).cps = z.cps := Array.toList_inj.mp this
        cases z
        exact congrArg PySem.Str.mk e2
      rw [he] at q
      exact ⟨.str z, H, I, ⟨t, rfl⟩, q⟩
    · rw [if_neg hc]
      exact ⟨hle, .str _, H, I.tok _, ⟨_, rfl⟩, q⟩
def gMulS : Val → Val → Sto → Option (Val × Sto)
  | .d (.str x), .d (.int k), S => if 2 ≤ k ∧ k ≤ 1000 ∧ x.length ≤ 10000 then some (.d (.str (repS x k.toNat)), S) else none
  | _, _, _ => none
theorem og_mulS : OpG X (binaryOp .Mult) gMulS := ⟨_, op_mulS, fun F m H S a b v u res S' ok ra rb e Q k => by
  unfold gMulS at e
  split at e
  · rename_i z j
    split at e
    · rename_i hz
      cases e
      cases rv_str.mp ra
      cases rv_int.mp rb
      exact ⟨z, j, rfl, rfl, hz.1, hz.2.1, hz.2.2, k.here ok (rv_str.mpr rfl)⟩
    · cases e
  · cases e⟩
def gMulX (md : Md) := alt2 (gMul md) gMulS
theorem og_mulX (md : Md) : OpG X (binaryOp .Mult) (gMulX md) := (og_mul md).or og_mulS
end
/-! ### sets of ints, asked for their length or sorted -/
def ddI : List Int → List Int
  | [] => []
  | x :: xs => if x ∈ ddI xs then ddI xs else x :: ddI xs
theorem ddI_mem : ∀ {xs : List Int} {y : Int}, y ∈ ddI xs ↔ y ∈ xs
  | [], y => by simp [ddI]
  | x :: xs, y => by
    rw [ddI]
    by_cases h : x ∈ ddI xs
    · rw [if_pos h, ddI_mem, List.mem_cons]
      refine ⟨.inr, fun z => ?_⟩
      rcases z with rfl | z
      · exact ddI_mem.mp h
      · exact z
    · rw [if_neg h, List.mem_cons, List.mem_cons, ddI_mem]
theorem ddI_nd : ∀ xs : List Int, (ddI xs).Nodup
  | [] => List.nodup_nil
  | x :: xs => by
    rw [ddI]
    by_cases h : x ∈ ddI xs
    · rw [if_pos h]; exact ddI_nd xs
    · rw [if_neg h]; exact List.nodup_cons.mpr ⟨h, ddI_nd xs⟩
theorem ddI_le : ∀ xs : List Int, (ddI xs).length ≤ xs.length
  | [] => Nat.le_refl _
  | x :: xs => by
    rw [ddI]
    have := ddI_le xs
    split <;> simp only [List.length_cons] <;> omega
theorem ddI_eq : ∀ {xs : List Int}, xs.Nodup → ddI xs = xs
  | [], _ => rfl
  | x :: xs, h => by
    obtain ⟨h1, h2⟩ := List.nodup_cons.mp h
    rw [ddI, if_neg (fun z => h1 (ddI_mem.mp z)), ddI_eq h2]
theorem ddI_len {xs : List Int} : (ddI xs).length = xs.length ↔ xs.Nodup := by
  refine ⟨fun h => ?_, fun h => by rw [ddI_eq h]⟩
  induction xs with
  | nil => exact List.nodup_nil
  | cons x xs ih =>
    rw [ddI] at h
    have hl := ddI_le xs
    by_cases hx : x ∈ ddI xs
    · rw [if_pos hx, List.length_cons] at h
      omega
    · rw [if_neg hx, List.length_cons, List.length_cons] at h
      exact List.nodup_cons.mpr ⟨fun z => hx (ddI_mem.mpr z), ih (by omega)⟩
section
variable {X : Cx}
theorem setR_cnt {w : World} {h : Heap} {a : Addr} {ns : List Int} {c : Nat} (R : SetR w h a (fun j => decide (j ∈ ns)) c) : c = (ddI ns).length := by
  obtain ⟨o, es, ep, t, ho, hx, hd, g, nd, hm, hb, hf, hn, _⟩ := R
  have hp : (es.toList.map keyOf).Perm (ddI ns) := by
    refine (List.perm_ext_iff_of_nodup nd (ddI_nd ns)).mpr fun k => ?_
    rw [← hm k, ddI_mem, decide_eq_true_eq]
  have := hp.length_eq
  rw [List.length_map, Array.length_toList] at this
  omega
/-- len(set(xs)) -/
def tLenSX (K : PySem.W.Frag) (ta : TE) : TE := fun σ H Q => ta σ H fun x H1 => ∃ (l : Addr) (ns : List Int), x = .ref l ∧ SqL K H1 l (ns.map V.int) ∧ ns.length ≤ 4000 ∧ Q (.int ((ddI ns).length : Nat)) H1
theorem pe_lenSX {a : Expr} {ta : TE} {p p2 q pos : Pos} (hm : X.mg "len" = none) (hm2 : X.mg "set" = none) (ha : PE X a ta) (hg : Gl X "len" := by rfl) (hg2 : Gl X "set" := by rfl) (hc : X.calm = true := by rfl)
    (na : starEach [a] X.env = (false, eval a X.env) :: starEach [] X.env := by rfl) : PE X (.Call (.Name "len" p) [.Call (.Name "set" p2) [a] [] q] [] pos) (tLenSX X.K ta) := by
  refine ⟨fun pins s σ H Q I h => ?_⟩
  refine Call_ (ld_blt I hg hm PySem.boot_len ?_)
  refine PyProof.Rows.callWith_builtin1 (PyProof.Rows.args_cons ?_ rfl) rfl rfl
  refine Call_ (ld_blt I hg2 hm2 PyProof.Rows.boot_set ?_)
  refine PyProof.Rows.callWith_type1 (PyProof.Rows.args_cons (thn (ha.run pins s σ H _ I h) fun v s1 ⟨x, H1, I1, r1, q1⟩ => PyProof.Rows.args_nil ?_) na) na rfl
  obtain ⟨l, ns, rfl, hq, hl, q1⟩ := q1
  cases r1
  obtain ⟨its, r, pl, hz⟩ := I1.list hq
  refine set_of_list ns (I1.ok.hd hc) pl.isList (by simpa using r.ints) (by unfold scanBound; omega) fun h' tk c R hcl hk => ?_
  refine PyProof.Rows.args_nil ?_
  have hcn := setR_cnt R
  obtain ⟨o, es, ep, t, ho, hex, hd, _, _, _, hf, hn⟩ := SetR.setOf (P := X.prog) R
  have I2 : Inv X pins σ H1 { s1 with heap := h', toks := tk } := I1.kept fun b o e => hk b o e
  refine call_len_set ho hex hd hf (by rw [hn]; omega) ⟨.int (ddI ns).length, H1, I2.tok _, ⟨_, by rw [hn, hcn]⟩, q1⟩
def eLenS (fa : Ef) : Ef := fun ρ S => bnd (fa ρ S) fun a S1 => match lookIs S1 a with
  | some ns => if ns.length ≤ 4000 then some (.d (.int (ddI ns).length), S1) else none
  | none => none
theorem ee_lenS {a : Expr} {fa : Ef} {p p2 q pos : Pos} (hm : X.mg "len" = none) (hm2 : X.mg "set" = none) (ha : EE X a fa) (hg : Gl X "len" := by rfl) (hg2 : Gl X "set" := by rfl) (hc : X.calm = true := by rfl)
    (na : starEach [a] X.env = (false, eval a X.env) :: starEach [] X.env := by rfl) : EE X (.Call (.Name "len" p) [.Call (.Name "set" p2) [a] [] q] [] pos) (eLenS fa) :=
  ee_of (pe_lenSX hm hm2 ha hg hg2 hc na) fun F m H S ρ σ res S' ok ro e Q k => by
    obtain ⟨a, S1, e1, e⟩ := bnd_inv e
    refine sndE ok ro e1 _ fun v F1 m1 H1 st1 ok1 r1 => ?_
    split at e
    · rename_i ns h1
      split at e
      · rename_i hz
        cases e
        obtain ⟨p, rfl, q1⟩ := lookIs_ok ok1 h1 r1
        exact ⟨p, ns, rfl, .of q1, hz, (k.on st1).here ok1 (rv_int.mpr rfl)⟩
      · cases e
    · cases e
/-- sorted(set(xs)) -/
def tSrtSX (K : PySem.W.Frag) (w : World) (ta : TE) : TE := fun σ H Q => ta σ H fun x H1 => ∃ (l : Addr) (ns : List Int), x = .ref l ∧ SqL K H1 l (ns.map V.int) ∧ ns.length ≤ 4000 ∧ (ddI ns).length < 64 ∧
  ∀ (S p : Addr) (c : Nat), H1 S = none → upd H1 S (SetO w S (fun j => decide (j ∈ ns)) c) p = none → Q (.ref p) (upd (upd H1 S (SetO w S (fun j => decide (j ∈ ns)) c)) p (.lst ((srtI (ddI ns)).map V.int)))
theorem pe_srtSX {a : Expr} {ta : TE} {p p2 q pos : Pos} (hm : X.mg "sorted" = none) (hm2 : X.mg "set" = none) (ha : PE X a ta) (hg : Gl X "sorted" := by rfl) (hg2 : Gl X "set" := by rfl) (hc : X.calm = true := by rfl)
    (na : starEach [a] X.env = (false, eval a X.env) :: starEach [] X.env := by rfl) : PE X (.Call (.Name "sorted" p) [.Call (.Name "set" p2) [a] [] q] [] pos) (tSrtSX X.K X.w ta) := by
  refine ⟨fun pins s σ H Q I h => ?_⟩
  refine Call_ (ld_blt I hg hm (show bootBuiltins "sorted" = some (.builtin "sorted") by decide +kernel) ?_)
  refine PyProof.Rows.callWith_builtin1 (PyProof.Rows.args_cons ?_ rfl) rfl rfl
  refine Call_ (ld_blt I hg2 hm2 PyProof.Rows.boot_set ?_)
  refine PyProof.Rows.callWith_type1 (PyProof.Rows.args_cons (thn (ha.run pins s σ H _ I h) fun v s1 ⟨x, H1, I1, r1, q1⟩ => PyProof.Rows.args_nil ?_) na) na rfl
  obtain ⟨l, ns, rfl, hq, hl, h64, q1⟩ := q1
  cases r1
  obtain ⟨its, r, pl, hz⟩ := I1.list hq
  refine set_of_list ns (I1.ok.hd hc) pl.isList (by simpa using r.ints) (by unfold scanBound; omega) fun h' tk c R hcl hk => ?_
  refine PyProof.Rows.args_nil ?_
  have hcn := setR_cnt R
  have I2 := I1.laid (a := s1.heap.objs.size) (o := SetO X.w s1.heap.objs.size (fun j => decide (j ∈ ns)) c) (t' := tk) (fun b o e => hk b o e) (Nat.le_refl _) (setO_new R)
  refine cr_sortedSet hc pins _ σ _ [.ref s1.heap.objs.size] _ Q I2 (.cons rfl .nil) ⟨_, _, c, rfl, upd_same, by omega, fun ms p' hms hmem hlen hp' => ?_⟩
  have hms' : ms.Pairwise (· ≤ ·) := hms.imp fun h => Int.le_of_lt h
  have hnd : ms.Nodup := hms.imp fun h e => by omega
  have hp2 : ms.Perm (ddI ns) := (List.perm_ext_iff_of_nodup hnd (ddI_nd ns)).mpr fun k => by rw [hmem k, ddI_mem, decide_eq_true_eq]
  have : ms = srtI (ddI ns) := (srtI_eq hp2 hms').symm
  subst this
  exact q1 _ p' c (I1.hok.fresh (Nat.le_refl _)) hp'
noncomputable def eSrtS (md : Md) (fa : Ef) : Ef := fun ρ S => bnd (fa ρ S) fun a S1 => match lookIs S1 a with
  | some ns => if ns.length ≤ 4000 ∧ (ddI ns).length < 64 then alloc md ((srtI (ddI ns)).map fun i => .d (.int i)) S1 else none
  | none => none
theorem ee_srtS (md : Md) {a : Expr} {fa : Ef} {p p2 q pos : Pos} (hm : X.mg "sorted" = none) (hm2 : X.mg "set" = none) (ha : EE X a fa) (hg : Gl X "sorted" := by rfl) (hg2 : Gl X "set" := by rfl) (hc : X.calm = true := by rfl)
    (na : starEach [a] X.env = (false, eval a X.env) :: starEach [] X.env := by rfl) : EE X (.Call (.Name "sorted" p) [.Call (.Name "set" p2) [a] [] q] [] pos) (eSrtS md fa) :=
  ee_of (pe_srtSX hm hm2 ha hg hg2 hc na) fun F m H S ρ σ res S' ok ro e Q k => by
    obtain ⟨a, S1, e1, e⟩ := bnd_inv e
    refine sndE ok ro e1 _ fun v F1 m1 H1 st1 ok1 r1 => ?_
    split at e
    · rename_i ns h1
      split at e
      · rename_i hz
        obtain ⟨p, rfl, q1⟩ := lookIs_ok ok1 h1 r1
        refine ⟨p, ns, rfl, .of q1, hz.1, hz.2, fun S2 p2 c hS hp => ?_⟩
        obtain ⟨hF, hm⟩ := ok1.none hS
        have ok2 := al_O (o := SetO X.w S2 (fun j => decide (j ∈ ns)) c) ok1 hF hm
        have st2 := al_X (F := F1) (m := m1) (o := SetO X.w S2 (fun j => decide (j ∈ ns)) c) ok1 hS
        exact alloc_ok ok2 (ints_rvs (srtI (ddI ns))) e ((k.on st1).on st2) hp
      · cases e
    · cases e
end
end QL

namespace QL
open PySem PySem.Spec PyProof.Rows L2
/-! ### list(zip(xs, ys)) of two lists -/
theorem z_nolen : typeLookup (.type "zip") "__len__" = pure none := by rw [typeLookup_type, builtinLookup_eq_fast]; kernel_rfl
theorem z_nohint : typeLookup (.type "zip") "__length_hint__" = pure none := by rw [typeLookup_type, builtinLookup_eq_fast]; kernel_rfl
/-- a zip at turn i -/
def ZSt (h : Heap) (z TI TO i1 i2 l1 l2 S : Addr) (xs ys : Array Value) (i : Nat) : Prop :=
  IsPair h TI (.ref i1) (.ref i2) ∧ h.IsListIter i1 l1 i ∧ h.IsListIter i2 l2 i ∧ h.IsList l1 xs ∧ h.IsList l2 ys ∧
  ((IsZip h z TI TO .none ∧ ∃ a b, IsPair h TO a b) ∨ ∃ T f oT, IsZipHeld h z TI TO T f ∧ h.get? T = some oT ∧ T ≠ z ∧ T ≠ i1 ∧ T ≠ i2 ∧ T ≠ S)
structure ZOff (z TI TO i1 i2 l1 l2 S : Addr) : Prop where
  z : z ≠ S
  TI : TI ≠ S
  TO : TO ≠ S
  i1 : i1 ≠ S
  i2 : i2 ≠ S
  l1 : l1 ≠ S
  l2 : l2 ≠ S
theorem ZSt.keep {h h' : Heap} {z TI TO i1 i2 l1 l2 S : Addr} {xs ys : Array Value} {i : Nat} (st : ZSt h z TI TO i1 i2 l1 l2 S xs ys i) (n : ZOff z TI TO i1 i2 l1 l2 S) (hk : ∀ b o, b ≠ S → h.get? b = some o → h'.get? b = some o) : ZSt h' z TI TO i1 i2 l1 l2 S xs ys i := by
  obtain ⟨hTI, h1, h2, hl1, hl2, hz⟩ := st
  refine ⟨hk _ _ n.TI hTI, h1.at fun o e => hk _ o n.i1 e, h2.at fun o e => hk _ o n.i2 e, hl1.at fun o e => hk _ o n.l1 e, hl2.at fun o e => hk _ o n.l2 e, ?_⟩
  rcases hz with ⟨hz, a, b, hTO⟩ | ⟨T, f, oT, hz, hT, r1, r2, r3, r4⟩
  · exact .inl ⟨hk _ _ n.z hz, a, b, hk _ _ n.TO hTO⟩
  · exact .inr ⟨T, f, oT, hk _ _ n.z hz, hk _ _ r4 hT, r1, r2, r3, r4⟩
section
variable {prog : Program} {w : World} {A : Around} {E : Value → Shared → Prop} {s : Shared} {z TI TO i1 i2 l1 l2 S : Addr} {xs ys : Array Value} {i : Nat}
theorem z_item {x y : Value} {Q : Option Value → Shared → Prop} (D : ZipApart z TI TO i1 i2 l1 l2) (st : ZSt s.heap z TI TO i1 i2 l1 l2 S xs ys i) (hS : S < s.heap.objs.size) (ex : xs[i]? = some x) (ey : ys[i]? = some y)
    (hQ : ∀ h', ZSt h' z TI TO i1 i2 l1 l2 S xs ys (i + 1) → h'.get? s.heap.objs.size = some { cls := .type "tuple", data := .seq #[x, y] } → h'.objs.size = s.heap.objs.size + 1 →
      (∀ b o, b ≠ z → b ≠ TO → b ≠ i1 → b ≠ i2 → s.heap.get? b = some o → h'.get? b = some o) → Q (some (.ref s.heap.objs.size)) { s with heap := h' }) :
    wpAny (model prog w) A (pyNext (.ref z)) Q E s := by
  obtain ⟨hTI, h1, h2, hl1, hl2, hz⟩ := st
  have lt : ∀ {c o}, s.heap.get? c = some o → s.heap.objs.size ≠ c := fun e => Nat.ne_of_gt (Heap.lt_size e)
  have n1 : s.heap.objs.size ≠ i1 := let ⟨_, e, _⟩ := h1; lt e
  have n2 : s.heap.objs.size ≠ i2 := let ⟨_, e, _⟩ := h2; lt e
  rcases hz with ⟨hz, a, b, hTO⟩ | ⟨T, f, oT, hz, hT, r1, r2, r3, r4⟩
  · refine wpAny_pyNext_zip_item D hz hTI hTO h1 h2 hl1 hl2 ex ey fun h' a1 a2 a3 a4 a5 a6 hk => ?_
    exact hQ h' ⟨hk _ _ D.TIz D.TITO D.TIi1 D.TIi2 hTI, a3, a4, hl1.at fun o e => hk _ o D.l1z D.l1TO D.l1i1 D.l1i2 e, hl2.at fun o e => hk _ o D.l2z D.l2TO D.l2i1 D.l2i2 e,
      .inr ⟨s.heap.objs.size, false, _, a1, a5, lt hz, n1, n2, Nat.ne_of_gt hS⟩⟩ a5 a6 hk
  · refine wpAny_pyNext_zip_item_held D hz hT hTI h1 h2 hl1 hl2 ex ey fun h' a1 a3 a4 a5 a6 hk => ?_
    exact hQ h' ⟨hk _ _ D.TIz D.TIi1 D.TIi2 hTI, a3, a4, hl1.at fun o e => hk _ o D.l1z D.l1i1 D.l1i2 e, hl2.at fun o e => hk _ o D.l2z D.l2i1 D.l2i2 e,
      .inr ⟨T, true, oT, a1, hk _ _ r1 r2 r3 hT, r1, r2, r3, r4⟩⟩ a5 a6 fun c o c1 _ c2 c3 e => hk c o c1 c2 c3 e
theorem z_done {Q : Option Value → Shared → Prop} (hh : A.handled = none) (D : ZipApart z TI TO i1 i2 l1 l2) (st : ZSt s.heap z TI TO i1 i2 l1 l2 S xs ys i) (hend : xs[i]? = none ∨ ys[i]? = none)
    (hQ : ∀ h', (∀ b o, b ≠ z → b ≠ TO → b ≠ i1 → b ≠ i2 → s.heap.get? b = some o → h'.get? b = some o) → Q none { s with heap := h' }) : wpAny (model prog w) A (pyNext (.ref z)) Q E s := by
  obtain ⟨hTI, h1, h2, hl1, hl2, hz⟩ := st
  rcases hz with ⟨hz, a, b, hTO⟩ | ⟨T, f, oT, hz, hT, r1, r2, r3, r4⟩
  · exact wpAny_pyNext_zip_end hh D hz hTI hTO h1 h2 hl1 hl2 hend fun h' hk => hQ h' hk
  · exact wpAny_pyNext_zip_end_held hh D hz hT hTI h1 h2 hl1 hl2 hend fun h' hk => hQ h' fun c o c1 _ c2 c3 e => hk c o c1 c2 c3 e
end
structure ZG (xs ys : Array Value) (lo : Addr) (h : Heap) (as : List Addr) : Prop where
  rise : as.Pairwise (· < ·)
  above : ∀ a ∈ as, lo < a
  pairs : ∀ (j : Nat) (a : Addr), as[j]? = some a → ∃ x y, xs[j]? = some x ∧ ys[j]? = some y ∧ h.get? a = some { cls := .type "tuple", data := .seq #[x, y] }
theorem ZG.there {xs ys : Array Value} {lo : Addr} {h : Heap} {as : List Addr} (g : ZG xs ys lo h as) {a : Addr} (ha : a ∈ as) : a < h.objs.size := by
  obtain ⟨j, hj⟩ := List.mem_iff_getElem?.mp ha
  obtain ⟨_, _, _, _, e⟩ := g.pairs j a hj
  exact Heap.lt_size e
section
variable {prog : Program} {w : World} {A : Around} {s : Shared} {R : Result → Shared → Prop} {z TI TO i1 i2 l1 l2 : Addr} {xs ys : Array Value}
theorem z_loop {S : Addr} (hh : A.handled = none) (D : ZipApart z TI TO i1 i2 l1 l2) (N : ZOff z TI TO i1 i2 l1 l2 S) (lz : z < S) (lTO : TO < S) (li1 : i1 < S) (li2 : i2 < S) {n : Nat} (hnx : n = min xs.size ys.size) (hn : n ≤ sizeLine) (res : Value) {h₁ : Heap}
    (hR : ∀ h' tk acc c as, (∀ b o, b ≠ S → b ≠ z → b ≠ TO → b ≠ i1 → b ≠ i2 → h₁.get? b = some o → h'.get? b = some o) → h'.get? S = some { cls := .type "list", dict := none, data := .seq acc c, slots := #[] } → as.length = n → ZG xs ys S h' as →
      acc.toList = as.map Value.ref → R (.ok (.ret res)) { s with heap := h', toks := tk }) :
    ∀ (k i : Nat) (h : Heap) (tk c : Nat) (acc : Array Value) (as : List Addr), n - i = k → i ≤ n → ZSt h z TI TO i1 i2 l1 l2 S xs ys i → (∀ b o, b ≠ S → b ≠ z → b ≠ TO → b ≠ i1 → b ≠ i2 → h₁.get? b = some o → h.get? b = some o) →
      h.get? S = some { cls := .type "list", dict := none, data := .seq acc c, slots := #[] } → acc.toList = as.map Value.ref → as.length = i → ZG xs ys S h as →
      codeAny (model prog w) A (.builtin "list.extend.loop" ⟨[.ref S, .ref z, res], []⟩) R { s with heap := h, toks := tk } := by
  intro k
  induction k with
  | zero =>
    intro i h tk c acc as hk hi hst hkeep hS hacc hal hG
    have hin : i = n := by omega
    refine codeAny_builtin PySem.F.entry_extend_loop ?_
    rw [Around.under_plainId PySem.F.plain_extend_loop _]
    show wpAny _ A.in1 (pyNext (.ref z) >>= _) _ _ _
    refine wpAny_bind (z_done (s := { s with heap := h, toks := tk }) (A := A.in1) hh D hst ?_ fun h' he => ?_)
    · rcases Nat.le_total xs.size ys.size with q | q
      · exact .inl (Array.getElem?_eq_none (by rw [hin, hnx, Nat.min_eq_left q]; exact Nat.le_refl _))
      · exact .inr (Array.getElem?_eq_none (by rw [hin, hnx, Nat.min_eq_right q]; exact Nat.le_refl _))
    refine wpAny_pure (hR h' tk acc c as (fun b o h1 h2 h3 h4 h5 e => he b o h2 h3 h4 h5 (hkeep b o h1 h2 h3 h4 h5 e)) (he S _ N.z.symm N.TO.symm N.i1.symm N.i2.symm hS) (by omega) ⟨hG.rise, hG.above, fun j a hj => ?_⟩ hacc)
    obtain ⟨x, y, e1, e2, e3⟩ := hG.pairs j a hj
    have la := hG.above a (List.mem_of_getElem? hj)
    exact ⟨x, y, e1, e2, he a _ (Nat.ne_of_gt (Nat.lt_trans lz la)) (Nat.ne_of_gt (Nat.lt_trans lTO la)) (Nat.ne_of_gt (Nat.lt_trans li1 la)) (Nat.ne_of_gt (Nat.lt_trans li2 la)) e3⟩
  | succ k ih =>
    intro i h tk c acc as hk hi hst hkeep hS hacc hal hG
    have hlt : i < n := by omega
    have hix : i < xs.size := Nat.lt_of_lt_of_le (hnx ▸ hlt) (Nat.min_le_left ..)
    have hiy : i < ys.size := Nat.lt_of_lt_of_le (hnx ▸ hlt) (Nat.min_le_right ..)
    have ex := Array.getElem?_eq_getElem hix
    have ey := Array.getElem?_eq_getElem hiy
    have hsz : acc.size = i := by rw [← Array.length_toList, hacc, List.length_map, hal]
    refine codeAny_builtin PySem.F.entry_extend_loop ?_
    rw [Around.under_plainId PySem.F.plain_extend_loop _]
    show wpAny _ A.in1 (pyNext (.ref z) >>= _) _ _ _
    refine wpAny_bind (z_item (s := { s with heap := h, toks := tk }) (S := S) D hst (Heap.lt_size hS) ex ey fun h' hst' ht hz hkp => ?_)
    dsimp only at ht hz hkp ⊢
    have hS' := hkp S _ N.z.symm N.TO.symm N.i1.symm N.i2.symm hS
    have up : ∀ b o, b ≠ S → h'.get? b = some o → (h'.update S (Obj.mapSeq (·.push (Value.ref h.objs.size)))).get? b = some o := fun b o hb e => (Heap.get?_update_other _ _ (Ne.symm hb)).trans e
    have hSl : S < h.objs.size := Heap.lt_size hS
    show wpAny _ A.in1 (updateSeq S (·.push (Value.ref h.objs.size)) >>= _) _ _ _
    refine wpAny_bind ?_
    refine wpAny_updateSeq hS' rfl (wpAny_pure ⟨plainId_quiet PySem.F.plain_extend_loop _, ih (i + 1) _ tk _ (acc.push (Value.ref h.objs.size)) (as ++ [h.objs.size]) (by omega) hlt (hst'.keep N up)
      (fun b o h1 h2 h3 h4 h5 e => up b o h1 (hkp b o h2 h3 h4 h5 (hkeep b o h1 h2 h3 h4 h5 e))) (Heap.get?_update_self _ hS' rfl) (by rw [Array.toList_push, hacc, List.map_append]; rfl) (by rw [List.length_append, hal]; rfl) ⟨?_, ?_, ?_⟩⟩) (by rw [hsz]; omega) (by show (acc.push (Value.ref h.objs.size)).size ≤ sizeLine + 1; rw [Array.size_push, hsz]; omega)
    · refine List.pairwise_append.mpr ⟨hG.rise, List.pairwise_singleton _ _, fun a ha b hb => ?_⟩
      rw [List.mem_singleton.mp hb]
      exact hG.there ha
    · intro a ha
      rcases List.mem_append.mp ha with ha | ha
      · exact hG.above a ha
      · rw [List.mem_singleton.mp ha]; exact hSl
    · intro j b hj
      rcases Nat.lt_trichotomy j as.length with h1 | h1 | h1
      · rw [List.getElem?_append_left h1] at hj
        obtain ⟨x', y', e1, e2, e3⟩ := hG.pairs j b hj
        have hb := hG.above b (List.mem_of_getElem? hj)
        exact ⟨x', y', e1, e2, up b _ (Nat.ne_of_gt hb) (hkp b _ (Nat.ne_of_gt (Nat.lt_trans lz hb)) (Nat.ne_of_gt (Nat.lt_trans lTO hb)) (Nat.ne_of_gt (Nat.lt_trans li1 hb)) (Nat.ne_of_gt (Nat.lt_trans li2 hb)) e3)⟩
      · subst h1
        have hb : h.objs.size = b := by simpa using hj
        subst hb
        exact ⟨_, _, by rw [hal]; exact ex, by rw [hal]; exact ey, up _ _ (Nat.ne_of_gt hSl) ht⟩
      · have hnone : (as ++ [h.objs.size])[j]? = none := List.getElem?_eq_none (by rw [List.length_append, List.length_singleton]; omega)
        rw [hnone] at hj; cases hj
end
section
variable {prog : Program} {w : World} {A : Around} {E : Value → Shared → Prop} {s : Shared} {z TI TO i1 i2 l1 l2 : Addr} {xs ys : Array Value}
theorem z_hint (hT : s.TypeIs (.ref z) "zip") {Q : Bool → Shared → Prop} (h : Q true s) : wpAny (model prog w) A (Builtin.List.listLengthHint (.ref z)) Q E s := by
  unfold Builtin.List.listLengthHint
  refine wpAny_bind (wpAny_specialOf hT z_nolen ?_)
  show wpAny _ A (specialOf (Value.ref z) (Str.ofString "__length_hint__") >>= _) _ _ _
  refine wpAny_bind (wpAny_specialOf hT z_nohint ?_)
  exact wpAny_pure h
theorem z_extend {R : Result → Shared → Prop} (hh : A.handled = none) (D : ZipApart z TI TO i1 i2 l1 l2) (S : Addr) (N : ZOff z TI TO i1 i2 l1 l2 S) (lz : z < S) (lTO : TO < S) (li1 : i1 < S) (li2 : i2 < S) (hz0 : IsZip s.heap z TI TO .none) (st : ZSt s.heap z TI TO i1 i2 l1 l2 S xs ys 0)
    {n : Nat} (hnx : n = min xs.size ys.size) (hn : n ≤ sizeLine) (res : Value) (c₀ : Nat) (hS : s.heap.get? S = some { cls := .type "list", data := .seq #[] c₀ })
    (hR : ∀ h' tk acc c as, (∀ b o, b ≠ S → b ≠ z → b ≠ TO → b ≠ i1 → b ≠ i2 → s.heap.get? b = some o → h'.get? b = some o) → h'.get? S = some { cls := .type "list", dict := none, data := .seq acc c, slots := #[] } → as.length = n → ZG xs ys S h' as →
      acc.toList = as.map Value.ref → R (.ok (.ret res)) { s with heap := h', toks := tk }) :
    wpAny (model prog w) A.in1 (Builtin.List.listExtendWith (.ref S) (.ref z) res)
      (fun fin s' => match fin with | .done f => R (.ok f) s' | .again c' => c'.quiet = true ∧ codeAny (model prog w) A c' R s') (fun e s' => R (.error e) s') s := by
  have key : ∀ (h : Heap) (c₁ tk : Nat), (∀ b o, b ≠ S → s.heap.get? b = some o → h.get? b = some o) →
      h.get? S = some { cls := .type "list", data := .seq #[] c₁ } → codeAny (model prog w) A (.builtin "list.extend.loop" ⟨[.ref S, .ref z, res], []⟩) R { s with heap := h, toks := tk } := by
    intro h c₁ tk hk hS₁
    refine z_loop (s := s) (h₁ := s.heap) hh D N lz lTO li1 li2 hnx hn res hR n 0 h tk c₁ #[] [] (Nat.sub_zero _) (Nat.zero_le _) (st.keep N hk) (fun b o hb _ _ _ _ e => hk b o hb e) hS₁ rfl rfl
      ⟨List.Pairwise.nil, (fun _ ha => nomatch ha), (fun j a hj => by simp at hj)⟩
  have hT : s.TypeIs (.ref z) "zip" := ⟨_, hz0, rfl⟩
  unfold Builtin.List.listExtendWith
  refine wpAny_bind (wpAny_typeOf (T := "zip") hT ?_)
  have h1 : Builtin.List.listSameRef (.ref S) (.ref z) = false := by simp [Builtin.List.listSameRef, N.z.symm]
  have h2 : (Value.type "zip" == Value.type "list") = false := by decide
  have h3 : (Value.type "zip" == Value.type "tuple") = false := by decide
  simp only [h1, h2, h3, Bool.or_false, Bool.false_eq_true, if_false]
  refine wpAny_bind (wpAny_pyIter_zip hz0 ?_)
  refine wpAny_bind (wpAny_holding (z_hint hT ?_))
  refine wpAny_ite_split (fun _ => ?_) (fun _ => wpAny_pure ⟨plainId_quiet PySem.F.plain_extend_loop _, key _ c₀ _ (fun b o _ e => e) hS⟩)
  refine wpAny_bind (wpAny_rule ?_)
  refine wpAny_bind ?_
  show wpAny _ _ (updateSeq S (·.push .none) >>= fun _ => updateSeq S (·.pop)) _ _ _
  refine wpAny_bind (wpAny_updateSeq hS rfl ?_)
  have hS₂ := Heap.get?_update_self (Obj.mapSeq (·.push Value.none)) hS rfl
  refine wpAny_updateSeq (hz := by seq_fits) hS₂ rfl ?_
  have hS₃ := Heap.get?_update_self (Obj.mapSeq (·.pop)) hS₂ rfl
  refine wpAny_pure ⟨plainId_quiet PySem.F.plain_extend_loop _, key _ _ _ (fun b o hb e => ?_) hS₃⟩
  exact (Heap.get?_update_other _ _ (Ne.symm hb)).trans ((Heap.get?_update_other _ _ (Ne.symm hb)).trans e)
end
section
variable {prog : Program} {w : World} {A : Around} {E : Value → Shared → Prop} {s : Shared} {z TI TO i1 i2 l1 l2 : Addr} {xs ys : Array Value}
theorem z_init {R : Result → Shared → Prop} (hh : A.handled = none) (D : ZipApart z TI TO i1 i2 l1 l2) (S : Addr) (N : ZOff z TI TO i1 i2 l1 l2 S) (lz : z < S) (lTO : TO < S) (li1 : i1 < S) (li2 : i2 < S) (hz0 : IsZip s.heap z TI TO .none) (st : ZSt s.heap z TI TO i1 i2 l1 l2 S xs ys 0)
    {n : Nat} (hnx : n = min xs.size ys.size) (hn : n ≤ sizeLine) (hS : s.heap.get? S = some { cls := .type "list", data := .seq #[] })
    (hR : ∀ h' tk acc c as, (∀ b o, b ≠ S → b ≠ z → b ≠ TO → b ≠ i1 → b ≠ i2 → s.heap.get? b = some o → h'.get? b = some o) → h'.get? S = some { cls := .type "list", dict := none, data := .seq acc c, slots := #[] } → as.length = n → ZG xs ys S h' as →
      acc.toList = as.map Value.ref → R (.ok (.ret .none)) { s with heap := h', toks := tk }) :
    wpAny (model prog w) A.in1 (Builtin.«list.__init__» ⟨[.ref S, .ref z], []⟩)
      (fun fin s' => match fin with | .done f => R (.ok f) s' | .again c' => c'.quiet = true ∧ codeAny (model prog w) A c' R s') (fun e s' => R (.error e) s') s := by
  show wpAny _ _ (do let old ← Builtin.List.listItems (.ref S); Builtin.List.listUpdate (.ref S) (fun _ => #[]); letGo old.toList.reverse; Builtin.List.listExtendWith (.ref S) (.ref z) .none) _ _ s
  refine wpAny_bind ?_
  unfold Builtin.List.listItems
  refine wpAny_bind (wpAny_seqItems hS rfl (wpAny_pure ?_))
  show wpAny _ _ (updateSeq S (fun _ => #[]) >>= fun _ => letGo (#[] : Array Value).toList.reverse >>= fun _ => Builtin.List.listExtendWith (.ref S) (.ref z) .none) _ _ s
  refine wpAny_bind (wpAny_updateSeq hS rfl ?_)
  have hS₂ := Heap.get?_update_self (Obj.mapSeq (fun _ => (#[] : Array Value))) hS rfl
  have oth : ∀ b o, b ≠ S → s.heap.get? b = some o → (s.heap.update S (Obj.mapSeq (fun _ => (#[] : Array Value)))).get? b = some o :=
    fun b o hb e => (Heap.get?_update_other _ _ (Ne.symm hb)).trans e
  refine wpAny_bind (wpAny_letGo ?_)
  refine z_extend hh D S N lz lTO li1 li2 (oth _ _ N.z hz0) (st.keep N oth) hnx hn .none _ hS₂ (fun h' tk acc c as hk hS' hl hG hacc => ?_)
  exact hR h' tk acc c as (fun b o hb h2 h3 h4 h5 e => hk b o hb h2 h3 h4 h5 (oth b o hb e)) hS' hl hG hacc
theorem z_call {Q : Value → Shared → Prop} (hh : A.handled = none) (D : ZipApart z TI TO i1 i2 l1 l2) (hz0 : IsZip s.heap z TI TO .none) (hTI : IsPair s.heap TI (.ref i1) (.ref i2)) {a b : Value} (hTO : IsPair s.heap TO a b) (h1 : s.heap.IsListIter i1 l1 0) (h2 : s.heap.IsListIter i2 l2 0) (hl1 : s.heap.IsList l1 xs) (hl2 : s.heap.IsList l2 ys)
    {n : Nat} (hnx : n = min xs.size ys.size) (hn : n ≤ sizeLine)
    (hQ : ∀ h' tk acc c as, (∀ b o, b ≠ z → b ≠ TO → b ≠ i1 → b ≠ i2 → s.heap.get? b = some o → h'.get? b = some o) → h'.get? s.heap.objs.size = some { cls := .type "list", dict := none, data := .seq acc c, slots := #[] } → as.length = n → ZG xs ys s.heap.objs.size h' as →
      acc.toList = as.map Value.ref → Q (.ref s.heap.objs.size) { s with heap := h', toks := tk }) :
    wpAny (model prog w) A (call (.type "list") [.ref z]) Q E s := by
  refine callType_codes (Q₁ := fun obj s₁ => obj = .ref s.heap.objs.size ∧ s₁ = { s with heap := s.heap.push { cls := .type "list", data := .seq #[] } }) PySem.F.called_list (PySem.F.typeCall_list_1 _) PySem.F.entry_list_init
    (code_list_new _ ⟨rfl, rfl⟩) fun obj s₁ h₁ => ?_
  obtain ⟨rfl, rfl⟩ := h₁
  have hS : (s.heap.push { cls := .type "list", data := .seq #[] }).get? s.heap.objs.size = some { cls := .type "list", data := .seq #[] } := Heap.get?_push_size _ rfl
  have pu : ∀ b o, s.heap.get? b = some o → (s.heap.push { cls := .type "list", data := .seq #[] }).get? b = some o := fun b o e => Heap.get?_push_of_some _ e
  have ltz : z < s.heap.objs.size := Heap.lt_size hz0
  have ltTI : TI < s.heap.objs.size := Heap.lt_size hTI
  have ltTO : TO < s.heap.objs.size := Heap.lt_size hTO
  have lti1 : i1 < s.heap.objs.size := let ⟨_, e, _⟩ := h1; Heap.lt_size e
  have lti2 : i2 < s.heap.objs.size := let ⟨_, e, _⟩ := h2; Heap.lt_size e
  have ltl1 : l1 < s.heap.objs.size := let ⟨_, e, _⟩ := hl1; Heap.lt_size e
  have ltl2 : l2 < s.heap.objs.size := let ⟨_, e, _⟩ := hl2; Heap.lt_size e
  have N : ZOff z TI TO i1 i2 l1 l2 s.heap.objs.size := ⟨Nat.ne_of_lt ltz, Nat.ne_of_lt ltTI, Nat.ne_of_lt ltTO, Nat.ne_of_lt lti1, Nat.ne_of_lt lti2, Nat.ne_of_lt ltl1, Nat.ne_of_lt ltl2⟩
  have st : ZSt (s.heap.push { cls := .type "list", data := .seq #[] }) z TI TO i1 i2 l1 l2 s.heap.objs.size xs ys 0 :=
    ⟨pu _ _ hTI, h1.at fun o e => pu _ o e, h2.at fun o e => pu _ o e, hl1.at fun o e => pu _ o e, hl2.at fun o e => pu _ o e, .inl ⟨pu _ _ hz0, a, b, pu _ _ hTO⟩⟩
  refine ⟨⟨_, hS, rfl⟩, PySem.F.args_list_init_2 _ _, z_init (A := A.in1) hh D _ N ltz ltTO lti1 lti2 (pu _ _ hz0) st hnx hn hS (fun h' tk acc c as hk hS' hl hG hacc => ?_)⟩
  exact ⟨rfl, hQ h' tk acc c as (fun b o h1 h2 h3 h4 e => hk b o (Nat.ne_of_lt (Heap.lt_size e)) h1 h2 h3 h4 (pu b o e)) hS' hl hG hacc⟩
end
/-- pairs tracked at their addresses -/
def putP : Hp → List Addr → List (V × V) → Hp
  | H, a :: as, p :: zs => putP (upd H a (.tup [p.1, p.2])) as zs
  | H, _, _ => H
theorem putP_off {b : Addr} : ∀ (as : List Addr) (zs : List (V × V)) (H : Hp), b ∉ as → putP H as zs b = H b
  | [], _, _, _ => rfl
  | _ :: _, [], _, _ => rfl
  | a :: as, p :: zs, H, h => by
    show putP (upd H a (.tup [p.1, p.2])) as zs b = H b
    rw [putP_off as zs _ (fun z => h (List.mem_cons_of_mem _ z)), upd_ne (fun z => h (by rw [z]; exact List.mem_cons_self))]
theorem putP_at : ∀ (as : List Addr) (zs : List (V × V)) (H : Hp), as.length = zs.length → as.Nodup → Paired (fun (t : Addr) (p : V × V) => putP H as zs t = some (.tup [p.1, p.2])) as zs
  | [], [], _, _, _ => .nil
  | [], _ :: _, _, h, _ => by cases h
  | _ :: _, [], _, h, _ => by cases h
  | a :: as, p :: zs, H, h, hn => by
    have hn' := List.nodup_cons.mp hn
    have ih := putP_at as zs (upd H a (.tup [p.1, p.2])) (Nat.succ.inj h) hn'.2
    refine .cons ?_ ih
    show putP (upd H a (.tup [p.1, p.2])) as zs a = some (.tup [p.1, p.2])
    rw [putP_off as zs _ hn'.1, upd_same]
section
variable {X : Cx}
theorem zip_laid {pins : List (Addr × Obj)} {σ : L2.St} {H : Hp} {s : Shared} {h' : Heap} {tk : Nat} {xs ys : List V} {us vs : List Value} {acc : Array Value} {c : Nat} {as : List Addr} {S : Addr} (I : Inv X pins σ H s) (rx : Vals xs us) (ry : Vals ys vs) (hz : as.length ≤ sizeLine)
    (hk : ∀ b o, s.heap.get? b = some o → h'.get? b = some o) (lo : s.heap.objs.size ≤ S) (hS : h'.get? S = some { cls := .type "list", dict := none, data := .seq acc c, slots := #[] }) (hl : as.length = min xs.length ys.length) (hG : ZG us.toArray vs.toArray S h' as) (hacc : acc.toList = as.map Value.ref) :
    H S = none ∧ (∀ t ∈ as, H t = none) ∧ S ∉ as ∧ as.Nodup ∧ Inv X pins σ (upd (putP H as (xs.zip ys)) S (.lst (as.map V.ref))) { s with heap := h', toks := tk } := by
  have hSn : S ∉ as := fun z => Nat.lt_irrefl _ (hG.above _ z)
  have nd : as.Nodup := List.Pairwise.imp (fun {a b} (h : a < b) => Nat.ne_of_lt h) hG.rise
  have new : ∀ t ∈ as, H t = none := fun t ht => I.hok.fresh (Nat.le_trans lo (Nat.le_of_lt (hG.above t ht)))
  have newS : H S = none := I.hok.fresh lo
  have hlz : as.length = (xs.zip ys).length := by rw [List.length_zip]; exact hl
  have atP := putP_at as (xs.zip ys) H hlz nd
  have off : ∀ b, b ∉ as → b ≠ S → upd (putP H as (xs.zip ys)) S (.lst (as.map V.ref)) b = H b := fun b h1 h2 => by rw [upd_ne h2, putP_off as _ _ h1]
  have low : ∀ b o, s.heap.get? b = some o → b ∉ as ∧ b ≠ S := fun b o e => ⟨fun z => absurd (Heap.lt_size e) (Nat.not_lt.mpr (Nat.le_trans lo (Nat.le_of_lt (hG.above b z)))), fun z => absurd (Heap.lt_size e) (Nat.not_lt.mpr (by rw [z]; exact lo))⟩
  have kp : ∀ b u, H b = some u → (upd (putP H as (xs.zip ys)) S (.lst (as.map V.ref))) b = some u := fun b u e => by
    rw [off b (fun z => by rw [new b z] at e; cases e) (fun z => by rw [z, newS] at e; cases e)]
    exact e
  refine ⟨newS, new, hSn, nd, ?_⟩
  refine I.call' (ch := []) rfl ⟨fun b o q _ _ _ => hk b o q, fun b o q _ _ _ => ⟨o.slots, hk b o q⟩, fun b o q n _ => ?_, fun b o q _ => ⟨o, hk b o q⟩, fun b xs q => kp b _ q, fun b o u q => kp b _ q, fun b ps q => ⟨#[], by rw [kp b _ q]; simp⟩⟩ (fun b u q => ?_) I.bare fun b z => by simp at z
  · obtain ⟨z1, z2⟩ := low b o q
    rw [off b z1 z2]
    exact n
  · by_cases hb2 : b = S
    · rw [hb2] at q ⊢
      rw [upd_same] at q
      cases q
      refine ⟨by rw [List.length_map]; exact hz, acc.toList, c, by rw [hacc]; exact LiI.vals_refs as, ?_⟩
      rw [Array.toArray_toList]
      exact hS
    · by_cases hb : b ∈ as
      · obtain ⟨j, p, e1, e2, e3⟩ := LiI.paired_ix atP hb
        rw [upd_ne hb2, e3] at q
        cases q
        obtain ⟨x, y, f1, f2, f3⟩ := hG.pairs j b e1
        have e4 := List.getElem?_zip_eq_some.mp e2
        obtain ⟨u, hu, ru⟩ := rx.get e4.1
        obtain ⟨u2, hu2, ru2⟩ := ry.get e4.2
        have g1 : us[j]? = some x := by simpa using f1
        have g2 : vs[j]? = some y := by simpa using f2
        rw [hu] at g1
        rw [hu2] at g2
        cases g1
        cases g2
        exact ⟨by show 2 ≤ sizeLine; decide, [_, _], .cons ru (.cons ru2 .nil), ⟨_, f3, rfl, _, rfl⟩⟩
      · rw [off b hb hb2] at q
        exact (I.hok b u q).stay (fun d v _ y => hk d v y) (fun d y => kp d _ y) fun d xs y => kp d _ y
end
section
variable {X : Cx} {K : PySem.W.Frag}
def tListZip (K : PySem.W.Frag) (ta : TA) : TE := fun σ H Q => ta σ H fun vs H1 => ∃ (a b : Addr) (xs ys : List V), vs = [.ref a, .ref b] ∧ SqL K H1 a xs ∧ SqL K H1 b ys ∧ min xs.length ys.length ≤ sizeLine ∧
  ∀ (p : Addr) (ts : List Addr), ts.length = min xs.length ys.length → H1 p = none → (∀ t ∈ ts, H1 t = none) → p ∉ ts → ts.Nodup → Q (.ref p) (upd (putP H1 ts (xs.zip ys)) p (.lst (ts.map V.ref)))
theorem pe_listZip {e e2 : Expr} {ta : TA} {p p2 zpos pos : Pos} (hm : X.mg "list" = none) (hm2 : X.mg "zip" = none) (ha : PA X [e, e2] ta) (hg : Gl X "list" := by rfl) (hg2 : Gl X "zip" := by rfl) (hc : X.calm = true := by rfl)
    (hs : starEach [e, e2] X.env = (false, eval e X.env) :: starEach [e2] X.env := by rfl) (hpl : (backTo zpos (starEach [e2] X.env)).any (·.1) = false := by rfl) :
    PE X (.Call (.Name "list" p) [.Call (.Name "zip" p2) [e, e2] [] zpos] [] pos) (tListZip X.K ta) := by
  refine ⟨fun pins s σ H Q I h => ?_⟩
  refine Call_ (ld_blt I hg hm (show bootBuiltins "list" = some (.type "list") by decide +kernel) ?_)
  refine PyProof.Rows.callWith_type1 (PyProof.Rows.args_cons ?_ rfl) rfl rfl
  refine Call_ (ld_blt I hg2 hm2 PyProof.Rows.boot_zip (PyProof.Rows.callWith_type1 (thn (ha.run zpos pins s σ H _ I h) fun us s1 ⟨vs, H1, I1, r1, q1⟩ => ?_) hs hpl))
  obtain ⟨a, b, xs, ys, ex, hqx, hqy, hz, q⟩ := q1
  subst ex
  cases r1 with
  | cons r rr =>
    cases rr with
    | cons r' rr =>
      cases rr
      cases r
      cases r'
      obtain ⟨its, rv, p1, _⟩ := I1.list hqx
      obtain ⟨its2, rv2, p2', _⟩ := I1.list hqy
      have la : a < s1.heap.objs.size := p1.lt
      have lb : b < s1.heap.objs.size := p2'.lt
      refine call_zip_2 p1.isList p2'.isList fun h' hz0 hTI hTO h1 h2 hsz hk => ?_
      refine PyProof.Rows.args_nil ?_
      have l1 := rv.length
      have l2 := rv2.length
      have D := PySem.W.ktu_apart s1.heap.objs.size a b la lb
      refine z_call (s := { s1 with heap := h' }) (n := min its.toArray.size its2.toArray.size) (I1.ok.hd hc) D hz0 hTI hTO h1 h2 (p1.isList.at fun o e => hk _ o e) (p2'.isList.at fun o e => hk _ o e) rfl (by simp only [List.size_toArray]; rw [← l1, ← l2]; exact hz) fun h2' tk acc c as hk2 hS hl hG hacc => ?_
      have keep : ∀ b o, s1.heap.get? b = some o → h2'.get? b = some o := fun b o e => by
        have hlt := Heap.lt_size e
        exact hk2 b o (Nat.ne_of_lt (Nat.lt_of_lt_of_le hlt (Nat.le_add_right _ _))) (Nat.ne_of_lt (Nat.lt_of_lt_of_le hlt (Nat.le_add_right _ _))) (Nat.ne_of_lt hlt) (Nat.ne_of_lt (Nat.lt_of_lt_of_le hlt (Nat.le_add_right _ _))) (hk b o e)
      have hl' : as.length = min xs.length ys.length := by rw [hl, List.size_toArray, List.size_toArray, l1, l2]
      obtain ⟨k1, k2, k3, k4, J⟩ := zip_laid (tk := tk) I1 rv rv2 (by rw [hl']; exact hz) keep (by show s1.heap.objs.size ≤ h'.objs.size; rw [hsz]; exact Nat.le_add_right _ _) hS hl' hG hacc
      exact ⟨.ref _, _, J, rfl, q _ as hl' k1 k2 k3 k4⟩
theorem al_Fs {m : List Addr} {S : Sto} : ∀ (ts : List Addr) (zs : List (V × V)) {F H : Hp}, SOk K F m H S → ts.length = zs.length → (∀ t ∈ ts, H t = none) → ts.Nodup → SOk K (putP F ts zs) m (putP H ts zs) S ∧ Stp F m H (putP F ts zs) m (putP H ts zs)
  | [], _, _, _, ok, _, _, _ => ⟨ok, Stp.refl⟩
  | t :: ts, [], _, _, _, hl, _, _ => nomatch hl
  | t :: ts, z :: zs, F, H, ok, hl, hn, nd => by
    obtain ⟨n1, n2⟩ := List.nodup_cons.mp nd
    obtain ⟨ok1, st1⟩ := al_F (o := .tup [z.1, z.2]) ok (hn t (List.mem_cons_self ..))
    obtain ⟨ok2, st2⟩ := al_Fs ts zs ok1 (Nat.succ.inj hl) (fun u hu => by rw [upd_ne (show u ≠ t from fun e => n1 (by rw [← e]; exact hu))]; exact hn u (List.mem_cons_of_mem _ hu)) n2
    exact ⟨ok2, st1.trans st2⟩
theorem zip_rps {F : Hp} : ∀ {ds es : List PyData} {xs ys : List V} {ts : List Addr}, Paired (Rp K F) ds xs → Paired (Rp K F) es ys → Paired (fun (t : Addr) (p : V × V) => F t = some (.tup [p.1, p.2])) ts (xs.zip ys) → Paired (Rp K F) (zipD ds es) (ts.map V.ref)
  | _, _, _, _, _, .nil, _, h => by
    cases h
    exact .nil
  | _, _, _, _, _, .cons _ _, .nil, h => by
    cases h
    exact .nil
  | _, _, _, _, _, .cons r1 t1, .cons r2 t2, h => by
    cases h with
    | cons e t => exact .cons (rp_tuple.mpr ⟨_, _, rfl, e, .cons r1 (.cons r2 .nil)⟩) (zip_rps t1 t2 t)
def lookD (S : Sto) (a : Val) : Option (List PyData) := (viewS S a).bind unD
theorem lookD_d (S : Sto) (ds : List PyData) : lookD S (.d (.list ds)) = some ds := by unfold lookD; rw [viewS_d]; exact unD_d ds
theorem lookD_ok {F H : Hp} {m : List Addr} {S : Sto} (ok : SOk K F m H S) {a : Val} {v : V} {ds : List PyData} (r : RV K F m a v) (h : lookD S a = some ds) : ∃ p ws, v = .ref p ∧ H p = some (.lst ws) ∧ Paired (Rp K F) ds ws := by
  unfold lookD at h
  cases e : viewS S a with
  | none => rw [e] at h; cases h
  | some xs =>
    rw [e] at h
    obtain ⟨p, ws, rfl, h1, h2⟩ := viewS_ok ok e r
    exact ⟨p, ws, rfl, h1, unD_ok h h2⟩
def gListZip (md : Md) : List Val → Sto → Option (Val × Sto)
  | [a, b], S1 => match lookD S1 a, lookD S1 b with
    | some ds, some es => if min ds.length es.length ≤ 16777216 then alloc md ((zipD ds es).map .d) S1 else none
    | _, _ => none
  | _, _ => none
theorem ee_listZip (md : Md) {e e2 : Expr} {fs : Af} {p p2 zpos pos : Pos} (hm : X.mg "list" = none) (hm2 : X.mg "zip" = none) (ha : EA X [e, e2] fs) (hg : Gl X "list" := by rfl) (hg2 : Gl X "zip" := by rfl) (hc : X.calm = true := by rfl)
    (hs : starEach [e, e2] X.env = (false, eval e X.env) :: starEach [e2] X.env := by rfl) (hpl : (backTo zpos (starEach [e2] X.env)).any (·.1) = false := by rfl) :
    EE X (.Call (.Name "list" p) [.Call (.Name "zip" p2) [e, e2] [] zpos] [] pos) (eCB (gListZip md) fs) :=
  ee_of (pe_listZip hm hm2 ha hg hg2 hc hs hpl) fun F m H S ρ σ res S' ok ro e Q k => by
    unfold eCB at e
    obtain ⟨vs0, S1, q, e⟩ := bnd_inv e
    unfold gListZip at e
    split at e
    · rename_i a b
      split at e
      · rename_i ds es hd he
        split at e
        · rename_i hz
          refine sndA ok ro q _ fun vs F1 m1 H1 st1 ok1 r1 => ?_
          cases r1 with
          | cons r t =>
            cases t with
            | cons r2 t =>
              cases t
              obtain ⟨p, ws, rfl, h1, h2⟩ := lookD_ok ok1 r hd
              obtain ⟨p', ws', rfl, h1', h2'⟩ := lookD_ok ok1 r2 he
              have l1 := pr_len h2
              have l2 := pr_len h2'
              refine ⟨p, p', ws, ws', rfl, .of h1, .of h1', by rw [sizeLine_eq, ← l1, ← l2]; exact hz, fun q ts hl hq hts hnq hnd => ?_⟩
              have hlz : ts.length = (ws.zip ws').length := by rw [List.length_zip]; exact hl
              obtain ⟨ok2, st2⟩ := al_Fs ts (ws.zip ws') ok1 hlz hts hnd
              have hv := zip_rps (pr_mono (fun d v => rp_mono st2.ex d v) h2) (pr_mono (fun d v => rp_mono st2.ex d v) h2') (putP_at ts (ws.zip ws') F1 hlz hnd)
              exact alloc_ok ok2 (rp_rvs hv) e ((k.on st1).on st2) (by rw [putP_off ts _ _ hnq]; exact hq)
        · cases e
      · cases e
    · cases e
end
/-- x op= e -/
theorem w_aug {i : Nat} {g : Val → Val → Sto → Option (Val × Sto)} {f : Ef} {ρ : Rho} {S : Sto} {Q : Fl → Rho → Sto → Prop} : QL.wpS (sAug i g f ρ S) Q ↔ wp (match ρ[i]? with | some (some x) => some (x, S) | _ => none) fun x S0 => wp (f ρ S0) fun y S1 => wp (g x y S1) fun z S2 => Q .nx (ρ.set i (some z)) S2 := by
  unfold sAug
  cases h : ρ[i]? with
  | none => exact nn QL.wpS_none wp_none
  | some o =>
    cases o with
    | none => exact nn QL.wpS_none wp_none
    | some x =>
      dsimp only
      rw [wp_some]
      cases h2 : f ρ S with
      | none => exact nn QL.wpS_none wp_none
      | some p2 =>
        rw [show (some p2 : Option (Val × Sto)) = some (p2.1, p2.2) from rfl, wp_some]
        dsimp only
        cases h3 : g x p2.1 p2.2 with
        | none => exact nn QL.wpS_none wp_none
        | some p3 =>
          rw [show (some p3 : Option (Val × Sto)) = some (p3.1, p3.2) from rfl, wp_some]
          dsimp only
          constructor
          · rintro ⟨_, _, _, e, q⟩; cases e; exact q
          · exact fun q => ⟨_, _, _, rfl, q⟩
end QL

namespace QL
open PySem PySem.Spec PyProof.Rows L2
/-! ### xs.count(x), data -/
section
variable {X : Cx} {K : PySem.W.Frag}
def rCntQ (K : PySem.W.Frag) : V → List V → Hp → VK → Prop := fun x xs H Q => ∃ (l : Addr) (ws : List V) (y : V) (ds : List PyData) (d : PyData), x = .ref l ∧ xs = [y] ∧ SqL K H l ws ∧ Paired (Rp K H) ds ws ∧ Rp K H d y ∧ PyData.plainAll ds = true ∧ d.plain = true ∧
  min (PyData.depthAll ds) d.depth ≤ 60 ∧ Q (.int ((ds.countP fun y => PyData.eqv y d : Nat) : Int)) H
theorem mt_countQ (hu : X.A.units + 62 < cLine) : MtR X "list.count" (rCntQ X.K) := by
  intro pins s σ H x xs v us Q I rx rxs h
  obtain ⟨l, ws, y, ds, d, rfl, rfl, hs, hp, hy, h1, h2, h3, q⟩ := h
  cases rx
  obtain ⟨u, rfl, ru⟩ := rxs.one
  obtain ⟨its, r, pl, hz⟩ := I.list hs
  obtain ⟨as, ra⟩ := Dp.readsAll I ds ws its (rpa_dp ds ws (rpa_iff.mpr hp)) r
  obtain ⟨bs, rb⟩ := Dp.reads I d y u (rp_dp d y hy) ru
  exact SeqAt.count_list_data (vs := its.toArray) pl.isList (by simpa using ra) rb h1 h2 (by omega) ⟨.int ((ds.countP fun y => PyData.eqv y d : Nat) : Int), H, I.tok _, ⟨_, rfl⟩, q⟩
def gCount : Val → List Val → Sto → Option (Val × Sto)
  | o, [a], S => match lookD S o, look S a with
    | some ds, some d => if PyData.plainAll ds = true ∧ d.plain = true ∧ min (PyData.depthAll ds) d.depth ≤ 60 then some (.d (.int ((ds.countP fun y => PyData.eqv y d : Nat) : Int)), S) else none
    | _, _ => none
  | _, _, _ => none
theorem rm_count : RM K (rCntQ K) gCount := fun F m H S a as v vs res S' ok ra rs e Q k => by
  unfold gCount at e
  split at e
  · rename_i o a
    split at e
    · rename_i ds d h1 h3
      split at e
      · rename_i hz
        cases e
        obtain ⟨p, ws, rfl, h4, h5⟩ := lookD_ok ok ra h1
        cases rs with
        | cons r1 t =>
          cases t
          exact ⟨_, _, _, ds, d, rfl, rfl, .of h4, pr_mono (fun d v => rp_mono ok.ex d v) h5, look_ok ok h3 r1, hz.1, hz.2.1, hz.2.2, k.here ok (rv_int.mpr rfl)⟩
      · cases e
    · cases e
  · cases e
theorem ee_count {a e : Expr} {fa : Ef} {fs : Af} {pos apos : Pos} (hu : X.A.units + 62 < cLine) (ho : EE X a fa) (ha : EA X [e] fs)
    (hbase : attributeBase a "count" X.env (eval a X.env) = eval a X.env := by rfl)
    (hfew : ((backTo pos (starEach [e] X.env)).all (fun x => !x.1) && (backToKw pos (keywordEach [] X.env)).all (fun x => x.1.isSome)
      && decide ([e].length + ([] : List Keyword).length + (if ([] : List Keyword).isEmpty then 0 else 1) < 30)) = true := by rfl)
    (hline : (apos.endLine == pos.line) = true := by rfl) (hs : starEach [e] X.env = (false, eval e X.env) :: starEach [] X.env := by rfl) (hplain : (backTo pos (starEach [] X.env)).any (·.1) = false := by rfl) :
    EE X (.Call (.Attribute a "count" apos) [e] [] pos) (eMt gCount fa fs) := ee_mt PySem.F.slot_list_count PySem.F.type_list_count (mt_countQ hu) rm_count ho ha hbase hfew hline hs hplain
end
section
variable {X : Cx} {K : PySem.W.Frag}
theorem same_putP : ∀ (as : List Addr) (zs : List (V × V)) {F H : Hp}, Same F H → Same (putP F as zs) (putP H as zs)
  | [], _, _, _, h => h
  | _ :: _, [], _, _, h => h
  | a :: as, z :: zs, F, H, h => by
    refine same_putP as zs (F := upd F a (.tup [z.1, z.2])) (H := upd H a (.tup [z.1, z.2])) fun b u q => ?_
    by_cases e : b = a
    · rw [e, upd_same] at q ⊢
      exact q
    · rw [upd_ne e] at q ⊢
      exact h b u q
/-- pairs gathered from a dict are tracked -/
theorem pairs_laid {pins : List (Addr × Obj)} {σ : L2.St} {H : Hp} {s : Shared} {h' : Heap} {tk : Nat} {kvs : List (Key × V)} {vs : List (Key × Value)} {as : List Addr} {lo : Addr} (I : Inv X pins σ H s) (kv : KV kvs vs)
    (hk : ∀ b o, s.heap.get? b = some o → h'.get? b = some o) (hlo : s.heap.objs.size ≤ lo) (hl : as.length = vs.length) (hG : PySem.W.KdxG (mixKind X.prog X.w) vs lo h' as) :
    (∀ t ∈ as, H t = none) ∧ as.Nodup ∧ as.length = ((kvs.map fun q => kV q.1).zip (kvs.map fun q => q.2)).length ∧ Inv X pins σ (putP H as ((kvs.map fun q => kV q.1).zip (kvs.map fun q => q.2))) { s with heap := h', toks := tk } := by
  have lk : kvs.length = vs.length := Paired.length kv
  have nd : as.Nodup := List.Pairwise.imp (fun {a b} (h : a < b) => Nat.ne_of_lt h) hG.rise
  have new : ∀ t ∈ as, H t = none := fun t ht => I.hok.fresh (Nat.le_trans hlo (Nat.le_of_lt (hG.above t ht)))
  have hlz : as.length = ((kvs.map fun q => kV q.1).zip (kvs.map fun q => q.2)).length := by
    rw [List.length_zip, List.length_map, List.length_map, Nat.min_self, hl, lk]
  have atP := putP_at as ((kvs.map fun q => kV q.1).zip (kvs.map fun q => q.2)) H hlz nd
  have off : ∀ b, b ∉ as → putP H as ((kvs.map fun q => kV q.1).zip (kvs.map fun q => q.2)) b = H b := fun b h1 => putP_off as _ _ h1
  have low : ∀ b o, s.heap.get? b = some o → b ∉ as := fun b o e z => absurd (Heap.lt_size e) (Nat.not_lt.mpr (Nat.le_trans hlo (Nat.le_of_lt (hG.above b z))))
  have kp : ∀ b u, H b = some u → putP H as ((kvs.map fun q => kV q.1).zip (kvs.map fun q => q.2)) b = some u := fun b u e => by
    rw [off b (fun z => by rw [new b z] at e; cases e)]
    exact e
  refine ⟨new, nd, hlz, ?_⟩
  refine I.call' (ch := []) rfl ⟨fun b o q _ _ _ => hk b o q, fun b o q _ _ _ => ⟨o.slots, hk b o q⟩, fun b o q n _ => ?_, fun b o q _ => ⟨o, hk b o q⟩, fun b xs q => kp b _ q, fun b o u q => kp b _ q, fun b ps q => ⟨#[], by rw [kp b _ q]; simp⟩⟩ (fun b u q => ?_) I.bare fun b z => by simp at z
  · rw [off b (low b o q)]
    exact n
  · by_cases hb : b ∈ as
    · obtain ⟨j, p, e1, e2, e3⟩ := LiI.paired_ix atP hb
      rw [e3] at q
      cases q
      obtain ⟨key, k, x, f1, f2, f3⟩ := hG.pairs j b e1
      have e4 := List.getElem?_zip_eq_some.mp e2
      obtain ⟨⟨k0, x0⟩, g0, e5⟩ : ∃ q, kvs[j]? = some q ∧ kV q.1 = p.1 := by
        have := e4.1
        rw [List.getElem?_map] at this
        obtain ⟨q, q1, q2⟩ := Option.map_eq_some_iff.mp this
        exact ⟨q, q1, q2⟩
      have e6 : x0 = p.2 := by
        have := e4.2
        rw [List.getElem?_map, g0] at this
        exact Option.some.inj this
      obtain ⟨qv, g1, g2, g3⟩ := LiI.paired_get kv g0
      rw [f1] at g1
      cases g1
      have rk : RelV (kV k0) key := by
        rw [show k0 = k from g2]
        exact relV_key (show keyIs k key = true from f2)
      rw [← e5, ← e6]
      exact ⟨by show 2 ≤ sizeLine; decide, [key, x], .cons rk (.cons g3 .nil), ⟨_, f3, rfl, _, rfl⟩⟩
    · rw [off b hb] at q
      exact (I.hok b u q).stay (fun d v _ y => hk d v y) (fun d y => kp d _ y) fun d xs y => kp d _ y
/-- sorted(d.items()) -/
def tSortItems (K : PySem.W.Frag) (te : TE) : TE := fun σ H Q => te σ H fun x H1 => ∃ (F : Hp) (d : Addr) (kvs : List (Key × V)) (es : List PyData), Same F H1 ∧ x = .ref d ∧ Rd H1 d (.dK kvs) ∧ Paired (Rp K F) es (kvs.map fun q => q.2) ∧ SortOk (zipD (kvs.map fun q => unK q.1) es) ∧
  ∀ (ts : List Addr) (ws' : List V) (p : Addr), ts.length = ((kvs.map fun q => kV q.1).zip (kvs.map fun q => q.2)).length → (∀ t ∈ ts, H1 t = none) → ts.Nodup → Paired (Rp K (putP F ts ((kvs.map fun q => kV q.1).zip (kvs.map fun q => q.2)))) (sortD (zipD (kvs.map fun q => unK q.1) es)) ws' →
    putP H1 ts ((kvs.map fun q => kV q.1).zip (kvs.map fun q => q.2)) p = none → Q (.ref p) (upd (putP H1 ts ((kvs.map fun q => kV q.1).zip (kvs.map fun q => q.2))) p (.lst ws'))
theorem keys_rp {F : Hp} : ∀ kvs : List (Key × V), Paired (Rp K F) (kvs.map fun q => unK q.1) (kvs.map fun q => kV q.1)
  | [] => .nil
  | q :: r => .cons (rp_unK q.1) (keys_rp r)
theorem pe_sortItems {e : Expr} {te : TE} {p apos cpos pos : Pos} (hu : X.A.units + 63 < cLine) (hm : X.mg "sorted" = none) (he : PE X e te) (hg : Gl X "sorted" := by rfl) (hc : X.calm = true := by rfl)
    (hbase : attributeBase e "items" X.env (eval e X.env) = eval e X.env := by rfl) (hline : (apos.endLine == cpos.line) = true := by rfl)
    (hs : starEach [.Call (.Attribute e "items" apos) [] [] cpos] X.env = (false, eval (.Call (.Attribute e "items" apos) [] [] cpos) X.env) :: starEach [] X.env := by rfl) :
    PE X (.Call (.Name "sorted" p) [.Call (.Attribute e "items" apos) [] [] cpos] [] pos) (tSortItems X.K te) := by
  refine ⟨fun pins s σ H Q I hq => ?_⟩
  refine Call_ (ld_blt I hg hm (show bootBuiltins "sorted" = some (.builtin "sorted") by decide +kernel) ?_)
  refine PyProof.Rows.callWith_builtin1 (PyProof.Rows.args_cons ?_ hs) hs rfl
  refine wpAny_Call_method (T := "dict") (id := "dict.items") hbase rfl hline F.plainAttrs_dict F.slot_dict_items F.type_dict_items (thn (he.run pins s σ H _ I hq) fun u s1 ⟨x, H1, I1, rx, Fz, d, kvs, es, hF, ex, hd, hes, hso, q⟩ => ?_)
  subst ex
  obtain rfl : u = Value.ref d := rx
  obtain ⟨hz, hs0, vs, kv, hdo⟩ := dk_rd I1.hok hd
  obtain ⟨ep, hat⟩ := hdo.dictAt
  have lk : kvs.length = vs.length := Paired.length kv
  refine ⟨hdo.typeIs, hdo.mapOf.noDict, ?_⟩
  show wpAny _ _ (callWith cpos (.builtin "dict.items") [.ref d] [] []) _ X.xe s1
  refine method_meetsIn F.slot_dict_items F.entry_dict_items rfl (PySem.evalArgs_none ⟨rfl, hdo.typeIs, F.args_dict_items_1 _, _, meets_dict_items (mixKind X.prog X.w) d hs0, ⟨vs, hdo⟩, ?_⟩)
  refine PyProof.Rows.args_nil ?_
  refine Calls.call_function_entry PyProof.Rows.kind_sorted PyProof.Rows.plain_sorted PyProof.Rows.entry_sorted (PyProof.Rows.args_sorted1 _) ?_
  unfold Builtin.«sorted»
  refine wpAny_bind (m := checkCount "sorted" 1 1 _) (wpAny_pure ?_)
  refine wpAny_bind (PySem.W.kdx_collect (A := X.A.in1) (knd := mixKind X.prog X.w) (kvs := vs) (ep := ep) (I1.ok.hd hc) ⟨_, Heap.get?_push_size _ rfl, rfl, rfl⟩ (hat.push _) (by omega) fun h1 tk as hk0 hl hG => ?_)
  have hk : ∀ b o, s1.heap.get? b = some o → h1.get? b = some o := fun b o e => hk0 b o (Heap.get?_push_of_some _ e)
  obtain ⟨k1, k2, k3, I2⟩ := pairs_laid (tk := tk) I1 kv hk (by show s1.heap.objs.size ≤ (s1.heap.push _).objs.size; rw [size_push']; exact Nat.le_succ _) hl hG
  have hF2 := same_putP as ((kvs.map fun q => kV q.1).zip (kvs.map fun q => q.2)) hF
  have hex : Same Fz (putP Fz as ((kvs.map fun q => kV q.1).zip (kvs.map fun q => q.2))) := fun b u e => by
    rw [putP_off as _ _ (fun z => by have := hF b u e; rw [k1 b z] at this; cases this)]
    exact e
  have hrp : Paired (Rp X.K (putP Fz as ((kvs.map fun q => kV q.1).zip (kvs.map fun q => q.2)))) (zipD (kvs.map fun q => unK q.1) es) (as.map V.ref) :=
    zip_rps (keys_rp kvs) (pr_mono (fun d v => rp_mono hex d v) hes) (putP_at as _ Fz k3 k2)
  generalize zipD (kvs.map fun q => unK q.1) es = bs at hso q hrp
  obtain ⟨hal, hk9, hu9⟩ := hso
  have e1 := each_of hrp (LiI.vals_refs as)
  have hlen : (as.map Value.ref).length = bs.length := e1.length
  have hL : bs.length ≤ sizeLine := by rw [← hlen, List.length_map, hl, ← lk]; exact hz
  have er : PySem.W.EachIs (fun v b => ∃ as, Reads h1 v b as) (as.map Value.ref) bs := e1.mono fun v b ⟨u, q1, q2⟩ => Dp.reads I2 b u v (rp_dp b u (rp_mono hF2 b u q2)) q1
  generalize hvs : as.map Value.ref = us at e1 hlen er
  refine wpAny_bind (wpAny_newList ?_ (by rw [hlen]; exact hL))
  have hoL : (h1.push (seqObj "list" us.toArray 0)).get? h1.objs.size = some (seqObj "list" us.toArray 0) := Heap.get?_push_size _ rfl
  show wpAny _ _ _ _ _ { s1 with heap := h1.push (seqObj "list" us.toArray 0), toks := tk }
  have old : ∀ b o, h1.get? b = some o → (PySem.W.sortingHeap (h1.push (seqObj "list" us.toArray 0)) h1.objs.size us).get? b = some o := fun b o q =>
    PySem.W.sortingHeap_old (Nat.ne_of_lt (Heap.lt_size q)) (Heap.get?_push_of_some _ q)
  have er' : PySem.W.EachIs (fun v b => ∃ as, Reads (PySem.W.sortingHeap (h1.push (seqObj "list" us.toArray 0)) h1.objs.size us) v (id b) as) us bs := er.mono fun v b ⟨as, r⟩ => ⟨as, PyProof.Rows.Reads.keeps old r⟩
  have em : PySem.W.EachIs (fun v d => ∃ as, Reads (PySem.W.sortingHeap (h1.push (seqObj "list" us.toArray 0)) h1.objs.size us) v d as) us (bs.map id) := PySem.W.each_map (R := fun v d => ∃ as, Reads (PySem.W.sortingHeap (h1.push (seqObj "list" us.toArray 0)) h1.objs.size us) v d as) id er'
  refine wpAny_bind (wpAny_holding (wpAny_call_entry PyProof.Rows.slot_list_sort ⟨_, hoL, rfl⟩ PyProof.Rows.entry_list_sort
    (PySem.W.list_sort_vals (s := { s1 with heap := h1.push (seqObj "list" us.toArray 0), toks := tk }) (κ := PySem.W.dataKind (PySem.W.sortingHeap (h1.push (seqObj "list" us.toArray 0)) h1.objs.size us) (bs.map id)) hoL
      (PySem.W.SortsAt.data (s := { s1 with heap := PySem.W.sortingHeap (h1.push (seqObj "list" us.toArray 0)) h1.objs.size us, toks := tk }) em (by rw [List.map_id]; exact hal) (by rw [List.map_id]; exact hk9) (fun d hd => by rw [List.map_id] at hd; have := hu9 d hd; show X.A.units + 2 + d.depth < cLine; omega)) (by rw [hlen]; exact hL) ⟨_, rfl, ?_⟩) (PyProof.Rows.args_list_sort _)))
  obtain ⟨e', he'⟩ := PyProof.Rows.sortedHeap_at (vs := us) (out := (PySem.W.sortVals (PySem.W.dataKind (PySem.W.sortingHeap (h1.push (seqObj "list" us.toArray 0)) h1.objs.size us) (bs.map id)) false us us).toArray) hoL
  have eo := PySem.W.sortVals_data false e1 er' (by rw [List.map_id]; exact hal)
  obtain ⟨ws', k4, k5⟩ := of_each eo
  refine wpAny_pure ⟨_, rfl, ?_⟩
  have hz' : ws'.length ≤ sizeLine := by rw [k5.length, PySem.W.sortVals_length false rfl, hlen]; exact hL
  refine ⟨.ref _, upd (putP H1 as ((kvs.map fun q => kV q.1).zip (kvs.map fun q => q.2))) h1.objs.size (.lst ws'), I2.laid (o := .lst ws') (t' := tk) (fun b o q => ?_) (Nat.le_refl _) ⟨hz', _, e', k5, he'⟩, rfl, q as ws' _ k3 k1 k2 k4 (I2.hok.fresh (Nat.le_refl _))⟩
  have hb : b < h1.objs.size := Heap.lt_size q
  rw [PyProof.Rows.sortedHeap_old (Nat.ne_of_lt hb) (by rw [size_push']; exact Nat.lt_succ_of_lt hb)]
  exact Heap.get?_push_of_some _ q
def dkD (S : Sto) : Val → Option (List (Key × Val) × List PyData)
  | .c i => match S[i]? with
    | some (.dk kvs) => (unD (kvs.map fun q => q.2)).map fun es => (kvs, es)
    | _ => none
  | _ => none
open Classical in
noncomputable def eSortItems (md : Md) (fa : Ef) : Ef := fun ρ S => bnd (fa ρ S) fun a S1 => match dkD S1 a with
  | some (kvs, es) => if SortOk (zipD (kvs.map fun q => unK q.1) es) then alloc md ((sortD (zipD (kvs.map fun q => unK q.1) es)).map .d) S1 else none
  | none => none
theorem vals_rv {F : Hp} {m : List Addr} : ∀ {kvs : List (Key × Val)} {ks : List (Key × V)}, Paired (PV K F m) kvs ks → Paired (RV K F m) (kvs.map fun q => q.2) (ks.map fun q => q.2)
  | _, _, .nil => .nil
  | _, _, .cons r t => .cons r.2 (vals_rv t)
theorem ee_sortItems (md : Md) {e : Expr} {fa : Ef} {p apos cpos pos : Pos} (hu : X.A.units + 63 < cLine) (hm : X.mg "sorted" = none) (he : EE X e fa) (hg : Gl X "sorted" := by rfl) (hc : X.calm = true := by rfl)
    (hbase : attributeBase e "items" X.env (eval e X.env) = eval e X.env := by rfl) (hline : (apos.endLine == cpos.line) = true := by rfl)
    (hs : starEach [.Call (.Attribute e "items" apos) [] [] cpos] X.env = (false, eval (.Call (.Attribute e "items" apos) [] [] cpos) X.env) :: starEach [] X.env := by rfl) :
    EE X (.Call (.Name "sorted" p) [.Call (.Attribute e "items" apos) [] [] cpos] [] pos) (eSortItems md fa) :=
  ee_of (pe_sortItems hu hm he hg hc hbase hline hs) fun F m H S ρ σ res S' ok ro e Q k => by
    obtain ⟨a, S1, e1, e⟩ := bnd_inv e
    refine sndE ok ro e1 _ fun v F1 m1 H1 st1 ok1 r1 => ?_
    split at e
    · rename_i kvs es hd
      split at e
      · rename_i hz
        unfold dkD at hd
        split at hd
        · rename_i i
          split at hd
          · rename_i kvs0 hS
            obtain ⟨es0, h1, h2⟩ := Option.map_eq_some_iff.mp hd
            cases h2
            obtain ⟨p, hm, rfl⟩ := r1
            obtain ⟨hF, ks, hH, hp⟩ := ok1.cell _ _ _ hm hS
            have ek := keyQ_eq hp
            rw [ek] at hz e
            refine ⟨F1, p, ks, es, ok1.ex, rfl, .inl hH, unD_ok h1 (vals_rv hp), hz, fun ts ws' q hl hts hnd hw hq => ?_⟩
            obtain ⟨ok2, st2⟩ := al_Fs ts _ ok1 hl hts hnd
            exact alloc_ok ok2 (rp_rvs hw) e ((k.on st1).on st2) hq
          · cases hd
        · cases hd
      · cases e
    · cases e
end
end QL

namespace QL
open PySem PySem.Spec PyProof.Rows L2
/-! ### sorted(set(a list of texts)) -/
def keyS (e : Int × Value) : Str := match e.2 with | .str k _ => k | _ => Str.empty
def GoodS (w : World) (e : Int × Value) : Prop := ∃ k tk, e.2 = Value.str k tk ∧ e.1 = hashStr w k
def SetRS (w : World) (h : Heap) (a : Addr) (S : Str → Bool) (n : Nat) : Prop :=
  ∃ o es ep t, h.get? a = some o ∧ o.ExactSet ∧ o.data = .set es ep t ∧ (∀ e ∈ es.toList, GoodS w e) ∧ (es.toList.map keyS).Nodup ∧ (∀ k, S k = true ↔ k ∈ es.toList.map keyS) ∧
    es.size < scanBound ∧ t.fits es.size = true ∧ es.size = n ∧ Ris t.place.toList ∧ (w.params.followText "set-order" = true ∨ t.led = true)
section
variable {P : Program} {w : World} {h h' : Heap} {a : Addr} {S : Str → Bool} {n : Nat}
theorem SetRS.at (R : SetRS w h a S n) (k : ∀ o, h.get? a = some o → h'.get? a = some o) : SetRS w h' a S n := by
  obtain ⟨o, es, ep, t, ho, r⟩ := R
  exact ⟨o, es, ep, t, k o ho, r⟩
theorem SetRS.congr {S' : Str → Bool} (R : SetRS w h a S n) (e : ∀ k, S' k = S k) : SetRS w h a S' n := by
  have q : S' = S := funext e
  rw [q]; exact R
theorem goodS_elems {l : List (Int × Value)} (g : ∀ e ∈ l, GoodS w e) : ElemsOf (strKind P w) l := fun e he => by
  obtain ⟨k, tk, h1, h2⟩ := g e he
  exact ⟨⟨k, by rw [h1]; exact strKind_is P w k tk, h2⟩, by rw [h1] <;> rfl⟩
theorem goodS_is {e : Int × Value} (g : GoodS w e) (k : Str) : (strKind P w).is k e.2 = true ↔ keyS e = k := by
  obtain ⟨k0, tk, h1, _⟩ := g
  unfold keyS
  rw [h1]
  show (Value.isStrOf k (.str k0 tk) = true) ↔ k0 = k
  simp [Value.isStrOf]
theorem goodS_mem {l : List (Int × Value)} (g : ∀ e ∈ l, GoodS w e) (k : Str) : k ∈ l.map keyS ↔ ∃ e ∈ l, (strKind P w).is k e.2 = true := by
  rw [List.mem_map]
  constructor
  · rintro ⟨e, he, q⟩
    exact ⟨e, he, (goodS_is (g e he) k).2 q⟩
  · rintro ⟨e, he, q⟩
    exact ⟨e, he, (goodS_is (g e he) k).1 q⟩
theorem SetRS.setOf (R : SetRS w h a S n) : h.SetOf (strKind P w) a S n := by
  obtain ⟨o, es, ep, t, ho, hx, hd, g, nd, hm, hb, hf, hn, _⟩ := R
  exact ⟨o, es, ep, t, ho, hx, hd, goodS_elems g, fun k => (hm k).trans (goodS_mem g k), hb, hf, hn⟩
theorem setRS_new_at (ho : h.get? a = some { cls := .type "set", dict := none, data := .set #[] 0 (.fresh 0 0 (!w.params.followText "set-order")) }) {ns : List Str} : SetRS w h a (fun j => decide (j ∈ ns.take 0)) 0 :=
  ⟨_, #[], 0, _, ho, ⟨rfl, rfl, rfl⟩, rfl, (fun e he => by simp at he), (by simp), (fun k => by simp), (by decide), (by rfl), rfl, List.Pairwise.nil, by
    show _ ∨ (!w.params.followText "set-order") = true
    cases w.params.followText "set-order"
    · exact .inr rfl
    · exact .inl rfl⟩
end
section
variable {P : Program} {w : World} {A : Around} {E : Value → Shared → Prop} {s : Shared} {a : Addr} {S : Str → Bool} {n : Nat}
theorem setRS_add_tail {g : Bool → Sem Unit} (hg : ∀ (b : Bool) (s₁ : Shared) (Q' : Unit → Shared → Prop), Q' () s₁ → wpAny (model P w) A (g b) Q' E s₁)
    {o : Obj} {es : Array (Int × Value)} {ep : Nat} {t : SetTable} (ho : s.heap.get? a = some o) (hex : o.ExactSet) (hd : o.data = .set es ep t)
    {es1 : Array (Int × Value)} {t2 : SetTable} {S' : Str → Bool} (g1 : ∀ e ∈ es1.toList, GoodS w e) (nd1 : (es1.toList.map keyS).Nodup) (m1 : ∀ k, S' k = true ↔ k ∈ es1.toList.map keyS)
    (hb1 : es1.size < scanBound) (hf2 : t2.fits es1.size = true) (hr : Ris t2.place.toList) (hl : w.params.followText "set-order" = true ∨ t2.led = true) {wasDummy : Bool} {R : Option Bool → Shared → Prop}
    (hR : ∀ h', Heap.SameBut a s.heap h' → SetRS w h' a S' es1.size → R (some true) { s with heap := h' }) :
    wpAny (model P w) A (do
        storeSet a es1 t2
        if (!wasDummy && t2.tooFull) = true then do
            g (relayAll t2 es1 (SetTable.grown es1.size)).2.2
            storeSet a (relayAll t2 es1 (SetTable.grown es1.size)).1 (relayAll t2 es1 (SetTable.grown es1.size)).2.1
            pure (some true)
          else pure (some true)) R E s := by
  refine wpAny_bind (wpAny_storeSet_of ho hd ?_ (fits_of_scanBound hb1))
  have ho1 := store_at (es' := es1) (t' := t2) ho hd
  have sb1 := Heap.SameBut.update s.heap a (Obj.putSet es1 t2)
  split
  · have pm := relayAll_perm t2 es1 (SetTable.grown es1.size)
    have hf3 := relayAll_fits t2 es1 (SetTable.grown es1.size)
    have hr3 := relayAll_ris t2 es1 (SetTable.grown es1.size)
    have hl3 := relayAll_led t2 es1 (SetTable.grown es1.size)
    generalize relayAll t2 es1 (SetTable.grown es1.size) = Z at pm hf3 hr3 hl3 ⊢
    obtain ⟨es2, t3, gave⟩ := Z
    dsimp only at pm hf3 hr3 hl3 ⊢
    have hsz : es2.size = es1.size := by rw [← Array.length_toList, pm.length_eq, Array.length_toList]
    have hb2 : es2.size < scanBound := by rw [hsz]; exact hb1
    refine wpAny_bind (hg _ _ _ ?_)
    refine wpAny_bind (wpAny_storeSet_of ho1 rfl ?_ (fits_of_scanBound hb2))
    have ho2 := store_at (es' := es2) (t' := t3) ho1 rfl
    refine wpAny_pure (hR _ (sb1.trans (Heap.SameBut.update _ a _)) ?_)
    exact ⟨_, es2, _, t3, ho2, hex, rfl, fun e he => g1 e (pm.mem_iff.mp he), (pm.map keyS).nodup_iff.mpr nd1, fun k => (m1 k).trans (pm.map keyS).mem_iff.symm, hb2, hf3, hsz, hr3,
      hl.imp id fun z => by rw [hl3]; exact z⟩
  · exact wpAny_pure (hR _ sb1 ⟨_, es1, _, t2, ho1, hex, rfl, g1, nd1, m1, hb1, hf2, rfl, hr, hl⟩)

theorem setRS_add_hashed {k : Str} {tk : Tok} {Q : Bool → Shared → Prop} (R : SetRS w s.heap a S n) (room : n + 1 < scanBound)
    (hQ : ∀ h', Heap.SameBut a s.heap h' → SetRS w h' a (fun j => S j || decide (j = k)) (if S k = true then n else n + 1) → Q (!S k) { s with heap := h' }) :
    wpAny (model P w) A (setAddHashed a (.str k tk) ((strKind P w).hash k)) Q E s := by
  obtain ⟨o, es, ep, t, ho, hex, hd, g, nd, hm, hb, hf, hn, hr, hl⟩ := R
  have hkey : (strKind P w).is k (.str k tk) = true := strKind_is P w k tk
  have hsc : (Value.str k tk).scannable = true := rfl
  have hel : ElemsOf (strKind P w) es.toList := goodS_elems g
  unfold setAddHashed setAddHashedIn
  refine wpAny_holding (wpAny_bind (wpAny_setState_of ho hd hf ?_))
  dsimp only
  rw [byScan_of hsc hb hel]
  simp only [↓reduceIte]
  unfold setAddByScan
  refine wpAny_bind ?_
  refine wpAny_bind (wpAny_rule ?_)
  refine wpAny_bind (wpAny_setScan_of hkey ho hd hf hel ?_)
  cases hfi : List.findIdx? (fun e => (strKind P w).is k e.2) es.toList with
  | some j =>
    dsimp only
    obtain ⟨hj, pj, _⟩ := List.findIdx?_eq_some_iff_getElem.mp hfi
    have hSk : S k = true := (hm k).2 ((goodS_mem (P := P) (w := w) g k).2 ⟨es.toList[j], List.getElem_mem hj, pj⟩)
    refine wpAny_pure (wpAny_pure ?_)
    have q := hQ s.heap (Heap.SameBut.refl a s.heap) ⟨o, es, ep, t, ho, hex, hd, g, nd, fun i => by
      rw [Bool.or_eq_true, decide_eq_true_eq, ← hm i]
      exact ⟨fun z => z.elim id (fun e => e ▸ hSk), .inl⟩, hb, hf, by rw [if_pos hSk]; exact hn, hr, hl⟩
    rw [hSk] at q
    exact q
  | none =>
    dsimp only
    have hnk : k ∉ es.toList.map keyS := fun z => by
      obtain ⟨e, he, q⟩ := (goodS_mem (P := P) (w := w) g k).1 z
      have c := List.findIdx?_eq_none_iff.mp hfi e he
      rw [q] at c
      cases c
    have hSk : S k = false := by
      cases q : S k with
      | false => rfl
      | true => exact absurd ((hm k).1 q) hnk
    have hgw : ∀ (b : Bool) {s₁ : Shared} {Q' : Unit → Shared → Prop}, Q' () s₁ → wpAny (model P w) A (match b with | true => rule "set.scan.the-table-gave-way" | false => pure ()) Q' E s₁ :=
      fun b s₁ Q' q => by cases b <;> first | exact wpAny_pure q | exact wpAny_rule q
    have pm := layNew_perm t es ((strKind P w).hash k) (.str k tk)
    have hf1 := layNew_fits t es ((strKind P w).hash k) (.str k tk)
    have hr1 := layNew_ris t es ((strKind P w).hash k) (.str k tk) hr
    have hl1 := layNew_led t es ((strKind P w).hash k) (.str k tk)
    generalize layNew t es ((strKind P w).hash k) (.str k tk) = Z at pm hf1 hr1 hl1 ⊢
    obtain ⟨es1, t1, wasDummy, gave⟩ := Z
    dsimp only at pm hf1 hr1 hl1 ⊢
    rw [Array.toList_push] at pm
    have pc : es1.toList.Perm (((strKind P w).hash k, Value.str k tk) :: es.toList) := pm.trans (List.perm_append_singleton _ _)
    have pk : (es1.toList.map keyS).Perm (k :: es.toList.map keyS) := pc.map keyS
    have g1 : ∀ e ∈ es1.toList, GoodS w e := fun e he => by
      rcases List.mem_cons.mp (pc.mem_iff.mp he) with z | z
      · rw [z]; exact ⟨k, tk, rfl, rfl⟩
      · exact g e z
    have nd1 : (es1.toList.map keyS).Nodup := pk.nodup_iff.mpr (List.nodup_cons.mpr ⟨hnk, nd⟩)
    have m1 : ∀ i, (S i || decide (i = k)) = true ↔ i ∈ es1.toList.map keyS := fun i => by
      rw [Bool.or_eq_true, decide_eq_true_eq, hm i, pk.mem_iff, List.mem_cons]
      exact Or.comm
    have hsz : es1.size = n + 1 := by rw [← Array.length_toList, pc.length_eq, List.length_cons, Array.length_toList, hn]
    have hb1 : es1.size < scanBound := by rw [hsz]; exact room
    have hled : w.params.followText "set-order" = true ∨ t1.led = true := hl.imp id fun z => by rw [hl1]; exact z
    have fin : ∀ h', Heap.SameBut a s.heap h' → SetRS w h' a (fun j => S j || decide (j = k)) es1.size → Q true { s with heap := h' } := fun h' sb r => by
      have q := hQ h' sb
      rw [hSk] at q
      rw [hsz] at r
      exact q r
    refine wpAny_bind (hgw _ ?_)
    split
    · refine wpAny_bind ?_
      rw [hashByValue_scannable 8 hsc]
      refine wpAny_pure ?_
      refine setRS_add_tail ?_ ho hex hd g1 nd1 m1 hb1 ?_ ?_ ?_ ?_
      · intro b s₁ Q' q; cases b <;> first | exact wpAny_pure q | exact wpAny_rule q
      · first | (split <;> first | exact hf1 | exact SetTable.fits_plain_off hf1) | exact hf1
      · first | (split <;> exact hr1) | exact hr1
      · first | (split <;> exact hled) | exact hled
      · intro h' sb r; dsimp only; exact wpAny_pure (fin h' sb r)
    · refine wpAny_bind (wpAny_pure ?_)
      simp only [↓reduceIte]
      refine setRS_add_tail ?_ ho hex hd g1 nd1 m1 hb1 hf1 hr1 hled ?_
      · intro b s₁ Q' q; cases b <;> first | exact wpAny_pure q | exact wpAny_rule q
      · intro h' sb r; dsimp only; exact wpAny_pure (fin h' sb r)

end
section
variable {P : Program} {w : World} {A : Around} {E : Value → Shared → Prop} {s : Shared}
theorem set_update_strs {I : Addr} {fp wr : List Addr} {G : Array GenState → Array GenState → Prop} {n : Nat} {Pv : Nat → Value → Prop} {St : Nat → Shared → Prop} {R : Result → Shared → Prop}
    (W : WalksS P w A.in1 I fp wr G n Pv St) (S : Addr) (hSf : S ∉ fp) (ns : List Str) (hn : n = ns.length) (hb : ns.length + 1 < scanBound) (hval : ∀ i v, Pv i v → ∃ k t, ns[i]? = some k ∧ v = .str k t) :
    ∀ (k i : Nat) (s : Shared), n - i = k → i ≤ n → St i s → (∃ c, c ≤ i ∧ SetRS w s.heap S (fun j => decide (j ∈ ns.take i)) c) →
      (∀ s' c, Moved (S :: wr) G s s' → c ≤ n → SetRS w s'.heap S (fun j => decide (j ∈ ns)) c → R (.ok (.ret .none)) s') →
      codeAny (model P w) A (.builtin "set.update.loop" ⟨[.ref S, .ref I], []⟩) R s := by
  have hSw : S ∉ wr := fun h => hSf (W.sub _ h)
  have hsub : ∀ b ∈ wr, b ∈ S :: wr := fun b hb => List.mem_cons_of_mem _ hb
  intro k
  induction k with
  | zero =>
    intro i s hk' hi hst ⟨c, hc, hS⟩ hR
    have hin : i = n := by omega
    subst hin
    refine codeAny_builtin F.entry_set_update_loop ?_
    rw [Around.under_plainId F.plain_set_update_loop _]
    show wpAny _ A.in1 (pyNext (.ref I) >>= _) _ _ s
    refine wpAny_bind (W.done s _ _ hst fun s' hm => ?_)
    show wpAny _ A.in1 (ret Value.none) _ _ s'
    have e : ns.take i = ns := List.take_of_length_le (by omega)
    rw [e] at hS
    exact wpAny_pure (hR s' c (hm.mono hsub) hc (hS.at fun o e => hm.heap S o hSw e))
  | succ k ih =>
    intro i s hk' hi hst ⟨c, hc, hS⟩ hR
    have hlt : i < n := by omega
    refine codeAny_builtin F.entry_set_update_loop ?_
    rw [Around.under_plainId F.plain_set_update_loop _]
    show wpAny _ A.in1 (pyNext (.ref I) >>= _) _ _ s
    refine wpAny_bind (W.item i s _ _ hlt hst fun v s' hP hst' hm => ?_)
    obtain ⟨z, t, hz, rfl⟩ := hval i v hP
    have hS' : SetRS w s'.heap S (fun j => decide (j ∈ ns.take i)) c := hS.at fun o e => hm.heap S o hSw e
    show wpAny _ A.in1 (holding [Value.str z t] (setAdd S (.str z t)) >>= _) _ _ s'
    refine wpAny_bind (wpAny_holding ?_)
    unfold setAdd
    refine wpAny_holding ?_
    refine wpAny_bind ((strKind P w).pyHash (k := z) (strKind_is _ _ _ _) ?_)
    refine setRS_add_hashed (s := { s' with toks := s'.toks + 1 }) hS' (by omega) fun h' hsb hS2 => ?_
    have hS3 : SetRS w h' S (fun j => decide (j ∈ ns.take (i + 1))) (if decide (z ∈ ns.take i) = true then c else c + 1) := hS2.congr fun j => by
      rw [List.take_add_one, hz]
      simp [List.mem_append]
    have hc3 : (if decide (z ∈ ns.take i) = true then c else c + 1) ≤ i + 1 := by
      split <;> omega
    refine wpAny_pure ⟨plainId_quiet F.plain_set_update_loop _, ih (i + 1) _ (by omega) hlt (W.frame _ s' _ _ hst' (Nat.le_succ _) fun b hb o e => ?_) ⟨_, hc3, hS3⟩ fun s'' c2 hm'' hc'' hS'' => ?_⟩
    · rw [hsb.2 b (fun h : b = S => hSf (by rw [← h]; exact hb))]; exact e
    · refine hR s'' c2 (Moved.trans W.gtrans ((hm.mono hsub).then_heap (Nat.le_succ _) fun b o hb e => ?_) hm'') hc'' hS''
      rw [hsb.2 b (fun h : b = S => hb (by rw [h]; exact List.mem_cons_self))]; exact e

theorem set_of_strs {l : Addr} {items : Array Value} (ns : List Str) {Q : Value → Shared → Prop} (hh : A.handled = none) (hl : s.heap.IsList l items) (hit : StrsAre items.toList ns) (hb : ns.length + 1 < scanBound)
    (h : ∀ (h' : Heap) (tk c : Nat), SetRS w h' s.heap.objs.size (fun j => decide (j ∈ ns)) c → c ≤ ns.length → (∀ b o, s.heap.get? b = some o → h'.get? b = some o) → Q (.ref s.heap.objs.size) { s with heap := h', toks := tk }) :
    wpAny (model P w) A (call (.type "set") [.ref l]) Q E s := by
  have hsz : items.size = ns.length := by
    have q := StrsAre.length hit
    rw [Array.length_toList] at q
    exact q
  obtain ⟨c, tl, hmro⟩ := F.called_set.mro
  have hmade := F.called_set.made
  have hsub := F.called_set.sub
  refine wpAny_call (codeAny_of_tree ?_)
  show wpAny _ _ (callAny (.type "set") _) _ _ _
  refine wpAny_pure ⟨Code.quiet_builtin _ (by decide +kernel), codeAny_builtin F.entry_type_call ?_⟩
  rw [Around.under_plain (weight_type_call_type "set" [.ref l] []) rfl]
  have h1 := F.called_set.notType
  have h2 := F.called_set.canCreate
  have hct := F.typeCall_set_1 (.ref l)
  repeat (any_goals (first | assumption | wp_step))
  refine codeAny_mono (code_set_led1 (.ref l) (E := E) (Q₁ := fun obj s₁ => obj = .ref s.heap.objs.size ∧ s₁ = { s with heap := s.heap.push (sob w) }) ⟨rfl, rfl⟩) fun r s₁ hr => ?_
  match r, hr with
  | .error e, hr => exact hr
  | .ok (.ret obj), hr =>
    obtain ⟨rfl, rfl⟩ := hr
    have hS : (s.heap.push (sob w)).get? s.heap.objs.size = some (sob w) := Heap.get?_push_size _ rfl
    have hT : Shared.TypeIs { s with heap := s.heap.push (sob w) } (.ref s.heap.objs.size) "set" := ⟨_, hS, rfl⟩
    have hli := F.called_set.init.lookup
    have hbi := F.called_set.init.bind (.ref s.heap.objs.size)
    repeat (any_goals (first | assumption | wp_step))
    refine codeAny_mono (codeAny_call_builtin (R := wants (fun r s₂ => r = .none ∧ ∃ h' tk c, s₂ = { s with heap := h', toks := tk } ∧ SetRS w h' s.heap.objs.size (fun j => decide (j ∈ ns)) c ∧ c ≤ ns.length ∧
        (∀ b o, s.heap.get? b = some o → h'.get? b = some o)) E) F.called_set.init.plain F.entry_set_init (check_set_init_1 hT ?_)) fun r₂ s₂ hr₂ => ?_
    · obtain ⟨⟨ocls, odict, odata, oslots⟩, hol, hcl, nl, hdl⟩ := hl
      simp only at hcl hdl
      subst hcl; subst hdl
      have hol' := Heap.get?_push_of_some (sob w) hol
      have hsls := F.sub_list_set
      have hslf := F.sub_list_frozenset
      have hne : (Value.type "list" == Value.type "dict") = false := by decide
      have hl1 : (s.heap.push (sob w)).IsList l items := ⟨_, hol', rfl, nl, rfl⟩
      unfold Builtin.«set.__init__» noKeywords Builtin.Frozenset.updateFrom
      generalize hPI : pyIter = PI
      wp_walk
      subst hPI
      refine wpAny_pyIter_list hl1 ?_
      refine wpAny_bind (wpAny_runValue ?_)
      have hlS : l < s.heap.objs.size := Heap.lt_size hol
      have hh3 : A.in1.in1.in1.handled = none := by simp [hh]
      have hz1 : (s.heap.push (sob w)).objs.size = s.heap.objs.size + 1 := Heap.size_push ..
      have hneI : l ≠ (s.heap.push (sob w)).objs.size := by rw [Heap.size_push]; exact Nat.ne_of_lt (Nat.lt_succ_of_lt hlS)
      have hSf : s.heap.objs.size ∉ [(s.heap.push (sob w)).objs.size, l] := by
        rw [Heap.size_push]
        simp only [List.mem_cons, List.not_mem_nil, or_false, not_or]
        exact ⟨Nat.ne_of_lt (Nat.lt_succ_self _), Nat.ne_of_gt hlS⟩
      have hval : ∀ (i : Nat) (v : Value), items[i]? = some v → ∃ k t, ns[i]? = some k ∧ v = .str k t := fun i v hv => by
        have hi : i < ns.length := by rw [← hsz]; exact (Array.getElem?_eq_some_iff.mp hv).1
        obtain ⟨t, e⟩ := SS.strs_at hit i v (by rw [Array.getElem?_toList]; exact hv)
        refine ⟨ns[i], t, List.getElem?_eq_getElem hi, ?_⟩
        rw [e, List.getD_eq_getElem?_getD, List.getElem?_eq_getElem hi] <;> rfl
      refine set_update_strs ((Walks.list hh3 _ l hneI items).toS) s.heap.objs.size
        hSf ns hsz hb hval (items.size - 0) 0 _ (by omega) (Nat.zero_le _)
        ⟨⟨_, Heap.get?_push_size _ rfl, rfl, rfl⟩, (hl1.push _)⟩ ?hS0 ?hR
      case hS0 => exact ⟨0, Nat.le_refl 0, setRS_new_at (Heap.get?_push_of_some _ hS)⟩
      case hR =>
        intro s' c' hm hc' hS'
        obtain ⟨h', g2, d', tk', os'⟩ := s'
        have eg : g2 = s.gens := hm.gens
        have ed : d' = s.drawn := hm.drawn
        have eo : os' = s.os := hm.os
        subst eg; subst ed; subst eo
        refine wpAny_pure ?_
        show wpAny _ _ (ret Value.none) _ _ _
        rw [hsz] at hc'
        refine wpAny_pure ⟨rfl, h', tk', c', rfl, hS', hc', fun b o e => ?_⟩
        have hb0 : b < s.heap.objs.size := Heap.lt_size e
        exact hm.heap b o (by simp only [List.mem_cons, List.not_mem_nil, or_false, not_or]; exact ⟨Nat.ne_of_lt hb0, by rw [Heap.size_push]; exact Nat.ne_of_lt (Nat.lt_succ_of_lt hb0)⟩) (Heap.get?_push_of_some _ (Heap.get?_push_of_some _ e))
    · match r₂, hr₂ with
      | .error e, hr₂ => exact hr₂
      | .ok (.ret r), hr₂ =>
        obtain ⟨rfl, h', tk, c', rfl, hS', hc', hk'⟩ := hr₂
        repeat (any_goals (first | assumption | wp_step))
        exact h _ _ _ hS' hc' hk'
end
/-- unlike texts, each once -/
def ddS : List Str → List Str
  | [] => []
  | x :: xs => if x ∈ ddS xs then ddS xs else x :: ddS xs
theorem ddS_mem {k : Str} : ∀ {xs : List Str}, k ∈ ddS xs ↔ k ∈ xs
  | [] => by simp [ddS]
  | x :: xs => by
    rw [ddS]
    split
    · rename_i h
      rw [ddS_mem, List.mem_cons]
      refine ⟨.inr, fun z => z.elim (fun e => ?_) id⟩
      rw [e]
      exact ddS_mem.mp h
    · rw [List.mem_cons, List.mem_cons, ddS_mem]
theorem ddS_nd : ∀ xs : List Str, (ddS xs).Nodup
  | [] => List.nodup_nil
  | x :: xs => by
    rw [ddS]
    split
    · exact ddS_nd xs
    · rename_i h
      exact List.nodup_cons.mpr ⟨h, ddS_nd xs⟩
theorem ddS_le : ∀ xs : List Str, (ddS xs).length ≤ xs.length
  | [] => Nat.le_refl _
  | x :: xs => by
    have := ddS_le xs
    rw [ddS]
    split
    · rw [List.length_cons]; omega
    · rw [List.length_cons, List.length_cons]; omega
def srtS (xs : List Str) : List Str := xs.mergeSort fun a b => decide (a.cps.toList ≤ b.cps.toList)
theorem srtS_perm (xs : List Str) : (srtS xs).Perm xs := List.mergeSort_perm _ _
theorem srtS_sorted (xs : List Str) : (srtS xs).Pairwise (fun a b => a.cps.toList ≤ b.cps.toList) := by
  have := List.pairwise_mergeSort (le := fun a b : Str => decide (a.cps.toList ≤ b.cps.toList)) (fun a b c h1 h2 => decide_eq_true (List.le_trans (of_decide_eq_true h1) (of_decide_eq_true h2))) (fun a b => by
    rcases List.le_total a.cps.toList b.cps.toList with h | h
    · simp [h]
    · simp [h]) xs
  exact this.imp fun h => of_decide_eq_true h
theorem cps_inj {a b : Str} (h : a.cps.toList = b.cps.toList) : a = b := by
  cases a
  cases b
  congr
  exact Array.toList_inj.mp h
theorem srtS_congr {xs ys : List Str} (hp : xs.Perm ys) : srtS xs = srtS ys :=
  ((srtS_perm xs).trans (hp.trans (srtS_perm ys).symm)).eq_of_pairwise (fun a b _ _ h3 h4 => cps_inj (List.le_antisymm h3 h4)) (srtS_sorted xs) (srtS_sorted ys)
theorem sortD_str (xs : List Str) : sortD (xs.map .str) = (srtS xs).map .str := by
  unfold sortD srtS
  refine (List.map_mergeSort fun a _ b _ => ?_).symm
  have := congrFun (congrFun (PySem.W.dataLe_str (β := Str) id) a) b
  exact this.symm
theorem sok_str (xs : List Str) : SortOk (xs.map .str) := by
  refine ⟨PySem.W.AllAlike.of fun b b' => by simp [PySem.W.alike], PySem.W.Sortable.others fun b => ⟨fun h => (nomatch h), fun xs h => (nomatch h)⟩, fun d hd => ?_⟩
  obtain ⟨x, _, rfl⟩ := List.mem_map.mp hd
  exact Nat.zero_le _
def txtV (v : Value) : Str := match v with | .str k _ => k | _ => Str.empty
theorem txt_each {h : Heap} : ∀ {us : List Value}, (∀ v ∈ us, ∃ k t, v = Value.str k t) → PySem.W.EachIs (fun v b => ∃ k t, v = Value.str k t ∧ b = PyData.str k) us ((us.map txtV).map PyData.str)
  | [], _ => .nil
  | v :: us, hv => by
    obtain ⟨k, t, rfl⟩ := hv v (List.mem_cons_self ..)
    exact .cons ⟨k, t, rfl, rfl⟩ (txt_each (h := h) fun u hu => hv u (List.mem_cons_of_mem _ hu))
theorem txt_vals : ∀ {us : List Value} {xs : List Str}, PySem.W.EachIs (fun v b => ∃ k t, v = Value.str k t ∧ b = PyData.str k) us (xs.map PyData.str) → Vals (xs.map V.str) us
  | [], [], _ => .nil
  | _ :: _, _ :: _, .cons r t => by
    obtain ⟨k, tk, rfl, e⟩ := r
    cases e
    exact .cons ⟨tk, rfl⟩ (txt_vals t)
section
variable {X : Cx} {K : PySem.W.Frag}
def tSrtSS (K : PySem.W.Frag) (ta : TE) : TE := fun σ H Q => ta σ H fun x H1 => ∃ (l : Addr) (ns : List Str), x = .ref l ∧ SqL K H1 l (ns.map V.str) ∧ ns.length ≤ 4000 ∧
  ∀ (p : Addr), H1 p = none → Q (.ref p) (upd H1 p (.lst ((srtS (ddS ns)).map V.str)))
theorem pe_srtSS {a : Expr} {ta : TE} {p p2 q pos : Pos} (hu : X.A.units + 63 < cLine) (hm : X.mg "sorted" = none) (hm2 : X.mg "set" = none) (ha : PE X a ta) (hg : Gl X "sorted" := by rfl) (hg2 : Gl X "set" := by rfl) (hc : X.calm = true := by rfl)
    (na : starEach [a] X.env = (false, eval a X.env) :: starEach [] X.env := by rfl) : PE X (.Call (.Name "sorted" p) [.Call (.Name "set" p2) [a] [] q] [] pos) (tSrtSS X.K ta) := by
  refine ⟨fun pins s σ H Q I h => ?_⟩
  refine Call_ (ld_blt I hg hm (show bootBuiltins "sorted" = some (.builtin "sorted") by decide +kernel) ?_)
  refine PyProof.Rows.callWith_builtin1 (PyProof.Rows.args_cons ?_ rfl) rfl rfl
  refine Call_ (ld_blt I hg2 hm2 PyProof.Rows.boot_set ?_)
  refine PyProof.Rows.callWith_type1 (PyProof.Rows.args_cons (thn (ha.run pins s σ H _ I h) fun v s1 ⟨x, H1, I1, r1, q1⟩ => PyProof.Rows.args_nil ?_) na) na rfl
  obtain ⟨l, ns, rfl, hq, hl, q1⟩ := q1
  cases r1
  obtain ⟨its, r, pl, hz⟩ := I1.list hq
  refine set_of_strs ns (I1.ok.hd hc) pl.isList (by simpa using r.strs) (by unfold scanBound; omega) fun h' tk c R hcl hk => ?_
  refine PyProof.Rows.args_nil ?_
  obtain ⟨o, es, ep, t, ho, hex, hd, g, nd, hmm, hb, hf, hn, hr, hld⟩ := R
  refine Calls.call_function_entry kind_sorted plain_sorted entry_sorted (args_sorted1 _) ?_
  unfold Builtin.«sorted»
  refine wpAny_bind (m := checkCount "sorted" 1 1 _) (wpAny_pure ?_)
  refine wpAny_bind (collect_set (s := { s1 with heap := h', toks := tk }) (A := X.A.in1) (I1.ok.hd hc) ⟨o, ho, hex.1, hd⟩ hf hb hr hld fun s2 us k1 hz2 g1 o1 pm => ?_)
  have hus : ∀ v ∈ us, ∃ k t, v = Value.str k t := fun v hv => by
    obtain ⟨e, he, q⟩ := List.mem_map.mp (pm.mem_iff.mp hv)
    obtain ⟨k, tk, h1, _⟩ := g e he
    exact ⟨k, tk, by rw [← q]; exact h1⟩
  have pk : (us.map txtV).Perm (es.toList.map keyS) := by
    have q := pm.map txtV
    rw [List.map_map] at q
    exact q
  have pd : (us.map txtV).Perm (ddS ns) := (List.perm_ext_iff_of_nodup (pk.nodup_iff.mpr nd) (ddS_nd ns)).mpr fun k => by
    rw [pk.mem_iff, ← hmm k, decide_eq_true_eq, ddS_mem]
  have e1 := txt_each (h := s2.heap) hus
  have hso := sok_str (us.map txtV)
  have hsd : sortD ((us.map txtV).map PyData.str) = (srtS (ddS ns)).map PyData.str := by rw [sortD_str, srtS_congr pd]
  obtain ⟨hal, hk9, hu9⟩ := hso
  have hlen : us.length = ((us.map txtV).map PyData.str).length := e1.length
  have hL : us.length ≤ sizeLine := by
    have := pd.length_eq
    have := ddS_le ns
    rw [List.length_map] at *
    rw [sizeLine_eq]
    omega
  have hdp : ∀ d ∈ (us.map txtV).map PyData.str, d.depth = 0 := fun d hd => by
    obtain ⟨x, _, rfl⟩ := List.mem_map.mp hd
    rfl
  generalize (us.map txtV).map PyData.str = bs at e1 hsd hal hk9 hu9 hlen hdp
  refine wpAny_bind (wpAny_newList ?_ hL)
  have hoL : (s2.heap.push (seqObj "list" us.toArray 0)).get? s2.heap.objs.size = some (seqObj "list" us.toArray 0) := Heap.get?_push_size _ rfl
  show wpAny _ _ _ _ _ { s2 with heap := s2.heap.push (seqObj "list" us.toArray 0) }
  have er' : PySem.W.EachIs (fun v b => ∃ as, Reads (PySem.W.sortingHeap (s2.heap.push (seqObj "list" us.toArray 0)) s2.heap.objs.size us) v (id b) as) us bs := e1.mono fun v b ⟨k, t, e2, e3⟩ => by
    rw [e2, e3]
    exact ⟨_, Reads.str k t⟩
  have em : PySem.W.EachIs (fun v d => ∃ as, Reads (PySem.W.sortingHeap (s2.heap.push (seqObj "list" us.toArray 0)) s2.heap.objs.size us) v d as) us (bs.map id) := PySem.W.each_map (R := fun v d => ∃ as, Reads (PySem.W.sortingHeap (s2.heap.push (seqObj "list" us.toArray 0)) s2.heap.objs.size us) v d as) id er'
  refine wpAny_bind (wpAny_holding (wpAny_call_entry PyProof.Rows.slot_list_sort ⟨_, hoL, rfl⟩ PyProof.Rows.entry_list_sort
    (PySem.W.list_sort_vals (s := { s2 with heap := s2.heap.push (seqObj "list" us.toArray 0) }) (κ := PySem.W.dataKind (PySem.W.sortingHeap (s2.heap.push (seqObj "list" us.toArray 0)) s2.heap.objs.size us) (bs.map id)) hoL
      (PySem.W.SortsAt.data (s := { s2 with heap := PySem.W.sortingHeap (s2.heap.push (seqObj "list" us.toArray 0)) s2.heap.objs.size us }) em (by rw [List.map_id]; exact hal) (by rw [List.map_id]; exact hk9) (fun d hd => by rw [List.map_id] at hd; have := hdp d hd; show X.A.units + 2 + d.depth < cLine; omega)) hL ⟨_, rfl, ?_⟩) (PyProof.Rows.args_list_sort _)))
  obtain ⟨e', he'⟩ := PyProof.Rows.sortedHeap_at (vs := us) (out := (PySem.W.sortVals (PySem.W.dataKind (PySem.W.sortingHeap (s2.heap.push (seqObj "list" us.toArray 0)) s2.heap.objs.size us) (bs.map id)) false us us).toArray) hoL
  have eo := PySem.W.sortVals_data false e1 er' (by rw [List.map_id]; exact hal)
  have hsd' : bs.mergeSort (PySem.W.dataLe false id) = (srtS (ddS ns)).map PyData.str := hsd
  rw [hsd'] at eo
  have k5 := txt_vals eo
  have I2 : Inv X pins σ H1 { s1 with heap := h', toks := tk } := I1.kept fun b o e => hk b o e
  have hz' : ((srtS (ddS ns)).map V.str).length ≤ sizeLine := by
    rw [List.length_map, (srtS_perm _).length_eq, sizeLine_eq]
    have := ddS_le ns
    omega
  have hnp : H1 s2.heap.objs.size = none := I2.hok.fresh hz2
  have kF : ∀ b o, h'.get? b = some o → (sortedHeap (s2.heap.push (seqObj "list" us.toArray 0)) s2.heap.objs.size us (PySem.W.sortVals (PySem.W.dataKind (PySem.W.sortingHeap (s2.heap.push (seqObj "list" us.toArray 0)) s2.heap.objs.size us) (bs.map id)) false us us).toArray).get? b = some o := fun b o q => by
    have q2 := k1 b o q
    have hb : b < s2.heap.objs.size := Heap.lt_size q2
    rw [PyProof.Rows.sortedHeap_old (Nat.ne_of_lt hb) (by rw [size_push']; exact Nat.lt_succ_of_lt hb)]
    exact Heap.get?_push_of_some _ q2
  refine wpAny_pure ⟨_, rfl, ?_⟩
  exact ⟨.ref _, upd H1 s2.heap.objs.size (.lst ((srtS (ddS ns)).map V.str)), I2.call' (ch := []) o1 (Un.laid kF hz2 hnp) (I2.hok.laid kF hz2 ⟨hz', _, e', k5, he'⟩) (by show AllBare s2.gens; rw [g1]; exact I2.bare) (fun _ z => nomatch z), rfl, q1 _ hnp⟩
def lookSs (S : Sto) (a : Val) : Option (List Str) := (lookD S a).bind (mapO fun d => match d with | .str s => some s | _ => none)
theorem strs_of : ∀ {ds : List PyData} {ns : List Str}, mapO (fun d => match d with | PyData.str s => some s | _ => none) ds = some ns → ds = ns.map .str
  | [], ns, h => by cases h; rfl
  | d :: ds, ns, h => by
    have e' : ((match d with | PyData.str s => some s | _ => none).bind fun b => (mapO (fun d => match d with | PyData.str s => some s | _ => none) ds).map (b :: ·)) = some ns := h
    obtain ⟨s, h1, h2⟩ := Option.bind_eq_some_iff.mp e'
    obtain ⟨t, h3, rfl⟩ := Option.map_eq_some_iff.mp h2
    rw [List.map_cons, ← strs_of h3]
    cases d <;> simp at h1
    rw [h1]
theorem strs_rv {F : Hp} {m : List Addr} : ∀ ns : List Str, Paired (RV K F m) ((ns.map PyData.str).map Val.d) (ns.map V.str)
  | [] => .nil
  | s :: r => .cons (show Rp K F (.str s) (V.str s) from rp_str.mpr rfl) (strs_rv r)
theorem strs_rp {F : Hp} : ∀ {ns : List Str} {ws : List V}, Paired (Rp K F) (ns.map PyData.str) ws → ws = ns.map V.str
  | [], _, .nil => rfl
  | s :: r, _, .cons h t => by rw [List.map_cons, rp_str.mp h, strs_rp t]
noncomputable def eSrtSS (md : Md) (fa : Ef) : Ef := fun ρ S => bnd (fa ρ S) fun a S1 => match lookSs S1 a with
  | some ns => if ns.length ≤ 4000 then alloc md (((srtS (ddS ns)).map PyData.str).map .d) S1 else none
  | none => none
theorem ee_srtSS (md : Md) {a : Expr} {fa : Ef} {p p2 q pos : Pos} (hu : X.A.units + 63 < cLine) (hm : X.mg "sorted" = none) (hm2 : X.mg "set" = none) (ha : EE X a fa) (hg : Gl X "sorted" := by rfl) (hg2 : Gl X "set" := by rfl) (hc : X.calm = true := by rfl)
    (na : starEach [a] X.env = (false, eval a X.env) :: starEach [] X.env := by rfl) : EE X (.Call (.Name "sorted" p) [.Call (.Name "set" p2) [a] [] q] [] pos) (eSrtSS md fa) :=
  ee_of (pe_srtSS hu hm hm2 ha hg hg2 hc na) fun F m H S ρ σ res S' ok ro e Q k => by
    obtain ⟨a, S1, e1, e⟩ := bnd_inv e
    refine sndE ok ro e1 _ fun v F1 m1 H1 st1 ok1 r1 => ?_
    split at e
    · rename_i ns h1
      split at e
      · rename_i hz
        obtain ⟨ds, h2, h3⟩ := Option.bind_eq_some_iff.mp h1
        obtain ⟨p, ws, rfl, h4, h5⟩ := lookD_ok ok1 r1 h2
        have hds := strs_of h3
        subst hds
        have hws := strs_rp h5
        subst hws
        exact ⟨p, ns, rfl, .of h4, hz, fun p2 hp => alloc_ok ok1 (strs_rv _) e (k.on st1) hp⟩
      · cases e
    · cases e
end
end QL

namespace QL
open PySem PySem.Spec PyProof.Rows L2
/-! ### dicts that change no more, walked -/
section
variable {K : PySem.W.Frag} {F F' H H' : Hp} {m m' : List Addr} {S S' : Sto} {ρ : Rho} {σ : L2.St}
/-- a live cell becomes frozen, as another object -/
theorem al_L (ok : SOk K F m H S) {k : Nat} {a : Addr} {c0 c : Cell} {o : HO} (hm : m[k]? = some a) (hS : S[k]? = some c0) (hF : F a = none) (hv : Same F (upd F a o) → COk K (upd F a o) (upd H a o) m a c) :
    SOk K (upd F a o) m (upd H a o) (S.set k c) ∧ Stp F m H (upd F a o) m (upd H a o) := by
  have hmem := List.mem_of_getElem? hm
  have ex : Same F (upd F a o) := fun b u h => by rw [upd_ne (ne_of_none h hF)]; exact h
  refine ⟨⟨fun b u h => ?_, by simp [ok.len], ok.nd, fun b hb => ?_, fun j b c2 h1 h2 => ?_⟩, ⟨ex, ⟨[], by simp⟩, fun b hb => .inl hb, fun b h h' => ?_, fun b u h hb => ?_⟩⟩
  · by_cases e : b = a
    · subst e; rw [upd_same] at h ⊢; exact h
    · rw [upd_ne e] at h ⊢; exact ok.ex b u h
  · by_cases e : b = a
    · subst e; rw [upd_same]; simp
    · rw [upd_ne e]; exact ok.tr b hb
  · by_cases e : j = k
    · subst e
      rw [hm] at h1; cases h1
      rw [List.getElem?_set_self (List.getElem?_eq_some_iff.mp hS).1] at h2
      cases h2
      exact hv ex
    · rw [List.getElem?_set_ne (fun q => e q.symm)] at h2
      have hne : b ≠ a := fun q => by
        subst q
        exact e (nd_ix ok.nd h1 hm)
      exact cok_keep (ok.cell j b c2 h1 h2) ex ⟨[], by simp⟩ (fun q => by rw [upd_ne hne]; exact q) fun u q => by rw [upd_ne hne]; exact q
  · by_cases e : b = a
    · subst e; exact .inl hmem
    · rw [upd_ne e] at h'; exact absurd h h'
  · have hne : b ≠ a := fun e => hb (e ▸ hmem)
    rw [upd_ne hne]; exact h
def lock1 (a : Val) (S : Sto) : Option Sto := match a with
  | .c k => match S[k]? with
    | some (.dk kvs) => some (S.set k (.fk kvs))
    | some (.dt kvs) => some (S.set k (.ft kvs))
    | some (.fk _) => some S
    | some (.ft _) => some S
    | _ => none
  | _ => none
/-- the dict that a name holds changes no more from here on -/
def sLock (i : Nat) (u : Sf) : Sf := fun ρ S => match ρ[i]? with
  | some (some a) => match lock1 a S with
    | some S1 => u ρ S1
    | none => none
  | _ => none
theorem sss_lock {X : Cx} {rest : List Stmt} {u : Sf} (i : Nat) (hb : SSs X rest u) : SSs X rest (sLock i u) := ⟨fun pins s' σ H D I ⟨F, m, S, ρ, fl, ρ', S', ok, ro, e, k⟩ => by
  unfold sLock at e
  split at e
  · rename_i a q
    split at e
    · rename_i S1 q1
      obtain ⟨w, h1, h2⟩ := ro.get i a q
      unfold lock1 at q1
      split at q1
      · obtain ⟨p, hm, rfl⟩ := h2
        split at q1
        · rename_i kvs hS
          cases q1
          obtain ⟨hF, ks, hH, hp⟩ := ok.cell _ _ _ hm hS
          obtain ⟨od, I1⟩ := I.lock hH True.intro
          obtain ⟨o1, s1⟩ := al_L ok hm hS hF (o := .frz od (.dK ks)) (c := .fk kvs) fun ex => ⟨od, ks, upd_same, pr_mono (fun x v r => ⟨r.1, rv_keep ex ⟨[], by simp⟩ r.2⟩) hp⟩
          exact hb.run pins s' σ _ D I1 ⟨_, _, _, _, _, _, _, o1, ro_mono s1 ro, e, k.on s1⟩
        · rename_i kvs hS
          cases q1
          obtain ⟨hF, ks, hH, hp⟩ := ok.cell _ _ _ hm hS
          obtain ⟨od, I1⟩ := I.lock hH True.intro
          obtain ⟨o1, s1⟩ := al_L ok hm hS hF (o := .frz od (.dT ks)) (c := .ft kvs) fun ex => ⟨od, ks, upd_same, pr_mono (fun x v r => ⟨r.1, rv_keep ex ⟨[], by simp⟩ r.2⟩) hp⟩
          exact hb.run pins s' σ _ D I1 ⟨_, _, _, _, _, _, _, o1, ro_mono s1 ro, e, k.on s1⟩
        · cases q1
          exact hb.run pins s' σ _ D I ⟨_, _, _, _, _, _, _, ok, ro, e, k⟩
        · cases q1
          exact hb.run pins s' σ _ D I ⟨_, _, _, _, _, _, _, ok, ro, e, k⟩
        · cases q1
      · cases q1
    · cases e
  · cases e⟩
/-- the keys of such a dict -/
def iDk (f : Ef) : If := fun ρ S => match f ρ S with
  | some (.c k, S1) => match S1[k]? with
    | some (.fk kvs) => some (kvs.map fun p => unK p.1, S1)
    | some (.ft kvs) => some (kvs.map fun p => .tuple (p.1.map unK), S1)
    | _ => none
  | _ => none
theorem rp_unKs (ks : List L2.Key) : Paired (Rp K F) (ks.map unK) (ks.map kV) := by
  induction ks with
  | nil => exact .nil
  | cons k ks ih => exact .cons (rp_unK k) ih
/-- a tuple of the heap is never a cell -/
theorem tup_nocell (ok : SOk K F m H S) {q : Addr} {vs : List V} (h : H q = some (.tup vs)) (hF : F q = none) : q ∉ m := by
  intro hq
  obtain ⟨k, hk⟩ := List.mem_iff_getElem?.mp hq
  have hl : k < S.length := by rw [← ok.len]; exact (List.getElem?_eq_some_iff.mp hk).1
  have hc := ok.cell k q _ hk (List.getElem?_eq_getElem hl)
  cases e : S[k] with
  | lst xs => rw [e] at hc; obtain ⟨_, ws, h2, _⟩ := hc; rw [h] at h2; cases h2
  | dk xs => rw [e] at hc; obtain ⟨_, ws, h2, _⟩ := hc; rw [h] at h2; cases h2
  | dt xs => rw [e] at hc; obtain ⟨_, ws, h2, _⟩ := hc; rw [h] at h2; cases h2
  | fk xs => rw [e] at hc; obtain ⟨o, ws, h2, _⟩ := hc; rw [hF] at h2; cases h2
  | ft xs => rw [e] at hc; obtain ⟨o, ws, h2, _⟩ := hc; rw [hF] at h2; cases h2
  | ins cn xs => rw [e] at hc; obtain ⟨_, C, dx, ws, _, h2, _⟩ := hc; rw [h] at h2; cases h2
  | frz x =>
    rw [e] at hc
    have hc : Rp K F x (.ref q) := hc
    cases x with
    | none => cases rp_none.mp hc
    | bool b => cases rp_bool.mp hc
    | int b => cases rp_int.mp hc
    | str b => cases rp_str.mp hc
    | list ds => obtain ⟨a, ws, e2, h2, _⟩ := rp_list.mp hc; cases e2; rw [hF] at h2; cases h2
    | tuple ds => obtain ⟨a, ws, e2, h2, _⟩ := rp_tuple.mp hc; cases e2; rw [hF] at h2; cases h2
    | dict ds => exact (rp_dict.mp hc).elim
/-- a tuple of the heap comes to the frozen part -/
theorem al_T (ok : SOk K F m H S) {q : Addr} {vs : List V} (h : H q = some (.tup vs)) : ∃ F', SOk K F' m H S ∧ Stp F m H F' m H ∧ F' q = some (.tup vs) := by
  cases hF : F q with
  | some o =>
    have := ok.ex q o hF
    rw [h] at this
    cases this
    exact ⟨F, ok, Stp.refl, hF⟩
  | none =>
    refine ⟨upd F q (.tup vs), al_P ok h hF (tup_nocell ok h hF), ⟨fun a u z => by rw [upd_ne (ne_of_none z hF)]; exact z, ⟨[], by simp⟩, fun a z => .inl z, fun a z z' => ?_, fun a o z _ => z⟩, upd_same⟩
    by_cases e : a = q
    · subst e; exact .inr (.inr ⟨vs, h⟩)
    · rw [upd_ne e] at z'; exact absurd z z'
theorem itok_keys {d : Addr} {o : Obj} {kvs : List (L2.Key × Val)} {ks : List (L2.Key × V)} (h : F d = some (.frz o (.dK ks))) (hp : Paired (PV K F m) kvs ks) : ItOk K (Itk d o ks) F (kvs.map fun p => unK p.1) := fun i F1 m1 H1 S1 ex ok => by
  have hq := ok.ex _ _ (ex _ _ h)
  have hl := pr_len hp
  refine ⟨fun hi => ⟨hq, by rw [List.length_map] at hi; omega⟩, fun hi => ⟨hq, by rw [List.length_map] at hi; omega⟩, fun x H2 hlt hy => ?_⟩
  obtain ⟨rfl, k, v, hk, rfl⟩ := hy
  obtain ⟨p, h1, h2⟩ := pr_get' hp hk
  have e : p.1 = k := h2.1
  refine ⟨unK k, F1, ?_, Stp.refl, ok, rp_unK k, fun _ _ h => h⟩
  rw [List.getElem?_map, h1, Option.map_some, e]
theorem itok_keysT {d : Addr} {o : Obj} {kvs : List (List L2.Key × Val)} {ks : List (List L2.Key × V)} (h : F d = some (.frz o (.dT ks))) (hp : Paired (PV K F m) kvs ks) : ItOk K (Itkt d o ks) F (kvs.map fun p => .tuple (p.1.map unK)) := fun i F1 m1 H1 S1 ex ok => by
  have hq := ok.ex _ _ (ex _ _ h)
  have hl := pr_len hp
  refine ⟨fun hi => ⟨hq, by rw [List.length_map] at hi; omega⟩, fun hi => ⟨hq, by rw [List.length_map] at hi; omega⟩, fun x H2 hlt hy => ?_⟩
  obtain ⟨rfl, k, v, q, hk, rfl, hH⟩ := hy
  obtain ⟨p, h1, h2⟩ := pr_get' hp hk
  have e : p.1 = k := h2.1
  obtain ⟨F2, o2, s2, h3⟩ := al_T ok hH
  refine ⟨.tuple (k.map unK), F2, ?_, s2, o2, rp_tuple.mpr ⟨q, _, rfl, h3, rp_unKs k⟩, fun _ _ h => h⟩
  rw [List.getElem?_map, h1, Option.map_some, e]
theorem ei_dk {X : Cx} {tg a : Expr} {fa : Ef} (ha : EE X a fa) : EI X tg a (iDk fa) := ei_of (pi_keys ha) fun F m H S ρ σ ds S' ok ro e R k => by
  unfold iDk at e
  split at e
  · rename_i kk S1 q
    refine sndE ok ro q _ fun v F1 m1 H1 st1 ok1 r1 => ?_
    obtain ⟨p, hm, rfl⟩ := r1
    split at e
    · rename_i kvs hS
      cases e
      obtain ⟨o, ks, hF, hp⟩ := ok1.cell _ _ _ hm hS
      exact ⟨p, o, rfl, .inl ⟨ks, ok1.ex _ _ hF, k _ _ _ _ st1 ok1 (itok_keys hF hp)⟩⟩
    · rename_i kvs hS
      cases e
      obtain ⟨o, ks, hF, hp⟩ := ok1.cell _ _ _ hm hS
      exact ⟨p, o, rfl, .inr ⟨ks, ok1.ex _ _ hF, k _ _ _ _ st1 ok1 (itok_keysT hF hp)⟩⟩
    · cases e
  · cases e
end
/-! ### instances of the program's classes -/
/-- what of the text a class must have -/
structure ClsQ (K : PySem.W.Frag) (C : Addr) (cn : Str) (fl : List Str) : Prop where
  at_ : PySem.W.nsIn K mainGlobals cn = some (some (.ref C))
  cl : Cls K C
  no : ∀ f ∈ fl, NoAttr K C f
section
variable {K : PySem.W.Frag} {F H : Hp} {m : List Addr} {S : Sto}
def putA (f : Str) (v : Val) : List (Str × Val) → List (Str × Val)
  | [] => [(f, v)]
  | (g, x) :: r => if g = f then (g, v) :: r else (g, x) :: putA f v r
theorem pv_lookup {fs : List (Str × Val)} {vs : List (Str × V)} (h : Paired (PV K F m) fs vs) (f : Str) : (∀ a, fs.lookup f = some a → ∃ v, vs.lookup f = some v ∧ RV K F m a v) ∧ (fs.lookup f = none → vs.lookup f = none) := by
  induction h with
  | nil => exact ⟨fun a e => (by cases e), fun _ => rfl⟩
  | @cons p q ps qs r t ih =>
    obtain ⟨g, x⟩ := p
    obtain ⟨g', y⟩ := q
    obtain ⟨rfl, r⟩ := r
    simp only [List.lookup]
    cases hb : f == g with
    | true => exact ⟨fun a e => ⟨y, rfl, by cases e; exact r⟩, fun e => (by cases e)⟩
    | false => exact ih
theorem pv_put {fs : List (Str × Val)} {vs : List (Str × V)} (h : Paired (PV K F m) fs vs) (f : Str) {a : Val} {v : V} (r : RV K F m a v) : Paired (PV K F m) (putA f a fs) (putF f v vs) := by
  induction h with
  | nil => exact .cons ⟨rfl, r⟩ .nil
  | @cons p q ps qs r1 t ih =>
    obtain ⟨g, x⟩ := p
    obtain ⟨g', y⟩ := q
    obtain ⟨rfl, r1⟩ := r1
    simp only [putA, putF]
    by_cases e : g = f
    · rw [if_pos e, if_pos e]; exact .cons ⟨rfl, r⟩ t
    · rw [if_neg e, if_neg e]; exact .cons ⟨rfl, r1⟩ ih
theorem ns_inj {cn : Str} {C C' : Addr} (h : PySem.W.nsIn K mainGlobals cn = some (some (.ref C))) (h' : PySem.W.nsIn K mainGlobals cn = some (some (.ref C'))) : C = C' := by
  rw [h] at h'
  cases h'
  rfl
/-- the attributes of an instance -/
def insS (cn : Str) (S : Sto) : Val → Option (Nat × List (Str × Val))
  | .c k => match S[k]? with
    | some (.ins c fs) => if c = cn then some (k, fs) else none
    | _ => none
  | _ => none
theorem insS_ok {cn : Str} {fl : List Str} {C : Addr} (cc : ClsQ K C cn fl) (ok : SOk K F m H S) {a : Val} {v : V} {k : Nat} {fs : List (Str × Val)} (h : insS cn S a = some (k, fs)) (r : RV K F m a v) :
    a = .c k ∧ S[k]? = some (.ins cn fs) ∧ ∃ p dx vs, v = .ref p ∧ m[k]? = some p ∧ F p = none ∧ H p = some (.ins C dx vs) ∧ Paired (PV K F m) fs vs := by
  unfold insS at h
  split at h
  · split at h
    · rename_i kk c fs' hS
      split at h
      · rename_i e
        subst e
        cases h
        obtain ⟨p, hm, rfl⟩ := r
        obtain ⟨hF, C', dx, vs, h1, h2, h3⟩ := ok.cell _ _ _ hm hS
        cases ns_inj cc.at_ h1
        exact ⟨rfl, hS, p, dx, vs, rfl, hm, hF, h2, h3⟩
      · cases h
    · cases h
  · cases h
end
section
variable {X : Cx} {a b c e : Expr} {es : List Expr} {pos apos : Pos} {fa fb fc : Ef} {fs : Af} {cn : Str} {fl : List Str} {C : Addr}
/-- e.f -/
def eAt (cn f : Str) (fa : Ef) : Ef := fun ρ S => bnd (fa ρ S) fun a S1 => match insS cn S1 a with
  | some (_, fs) => match fs.lookup f with
    | some v => some (v, S1)
    | none => none
  | none => none
theorem ee_at {f : Str} (cc : ClsQ X.K C cn fl) (hf : f ∈ fl) (ha : EE X a fa) (hb : attributeBase a f X.env (eval a X.env) = eval a X.env := by rfl) : EE X (.Attribute a f pos) (eAt cn f fa) := ee_of (pe_fld ha hb) fun F m H S ρ σ res S' ok ro e Q k => by
  obtain ⟨o, S1, e1, e⟩ := bnd_inv e
  refine sndE ok ro e1 _ fun v F1 m1 H1 st1 ok1 r1 => ?_
  split at e
  · rename_i kk fs hi
    split at e
    · rename_i y hy
      cases e
      obtain ⟨rfl, hS, p, dx, vs, rfl, hm, hF, hH, hp⟩ := insS_ok cc ok1 hi r1
      obtain ⟨u, h1, h2⟩ := (pv_lookup hp f).1 _ hy
      exact ⟨p, C, dx, vs, u, rfl, hH, cc.cl, cc.no f hf, h1, (k.on st1).here ok1 h2⟩
    · cases e
  · cases e
/-- e.f = v -/
def sFs (cn f : Str) (fo fv : Ef) : Sf := fun ρ S => match fv ρ S with
  | some (v, S1) => match fo ρ S1 with
    | some (o, S2) => match insS cn S2 o with
      | some (k, fs) => if fs.length < 1000 then some (.nx, ρ, S2.set k (.ins cn (putA f v fs))) else none
      | none => none
    | none => none
  | none => none
theorem ss_fs {f : Str} {pos' : Pos} (cc : ClsQ X.K C cn fl) (hf : f ∈ fl) (ha : EE X a fa) (hv : EE X b fb) (hs : swapsWith b (some (.Attribute a f pos')) pos.line X.env = pure false := by rfl) : SS X (.Assign [.Attribute a f pos'] b pos) (sFs cn f fa fb) :=
  ss_of (ps_fld ha hv hs) fun F m H S ρ σ fl' ρ' S' ok ro e D k => by
  unfold sFs at e
  split at e
  · rename_i v S1 e1
    split at e
    · rename_i o S2 e2
      split at e
      · rename_i kk fs hi
        split at e
        · rename_i hl
          cases e
          refine sndE ok ro e1 _ fun v F1 m1 H1 st1 ok1 r1 => ?_
          refine sndE ok1 (ro_mono st1 ro) e2 _ fun u F2 m2 H2 st2 ok2 r2 => ?_
          obtain ⟨rfl, hS, p, dx, vs, rfl, hm, hF, hH, hp⟩ := insS_ok cc ok2 hi r2
          obtain ⟨o3, s3⟩ := al_MC ok2 hm hS hF (c := .ins cn (putA f _ fs)) (o := .ins C dx (putF f _ vs)) ⟨hF, C, dx, _, cc.at_, upd_same, pv_put hp f (rv_mono st2 r1)⟩
          exact ⟨p, C, dx, vs, rfl, hH, cc.cl, cc.no f hf, by rw [← pr_len hp]; exact hl, k _ _ _ _ ((st1.trans st2).trans s3) o3 (ro_mono ((st1.trans st2).trans s3) ro)⟩
        · cases e
      · cases e
    · cases e
  · cases e
/-- e.f op= v -/
def sFa (cn f : Str) (g : Val → Val → Sto → Option (Val × Sto)) (fo fv : Ef) : Sf := fun ρ S => match fo ρ S with
  | some (o, S1) => match insS cn S1 o with
    | some (k, fs) => match fs.lookup f with
      | some x => match fv ρ S1 with
        | some (y, S2) => match g x y S2 with
          | some (z, S3) => match insS cn S3 o with
            | some (_, fs') => if fs'.length < 1000 then some (.nx, ρ, S3.set k (.ins cn (putA f z fs'))) else none
            | none => none
          | none => none
        | none => none
      | none => none
    | none => none
  | none => none
theorem ss_fa {f : Str} {op : Operator} {tpos : Pos} {g : Val → Val → Sto → Option (Val × Sto)} (cc : ClsQ X.K C cn fl) (hf : f ∈ fl) (hg : OpG X (inplaceOp op) g) (ha : EE X a fa) (hv : EE X b fb) : SS X (.AugAssign (.Attribute a f tpos) op b pos) (sFa cn f g fa fb) := by
  obtain ⟨r, h1, h2⟩ := hg
  refine ss_of (ps_fldaug (rd := r) ha hv (fun pins s σ H x y u v Q I rx ry h => h1 pins s σ H x y u v Q I rx ry h)) fun F m H S ρ σ fl' ρ' S' ok ro e D k => ?_
  unfold sFa at e
  split at e
  · rename_i o S1 e1
    split at e
    · rename_i kk fs hi
      split at e
      · rename_i x hx
        split at e
        · rename_i y S2 e2
          split at e
          · rename_i z S3 e3
            split at e
            · rename_i kk' fs' hi'
              split at e
              · rename_i hl
                cases e
                refine sndE ok ro e1 _ fun v F1 m1 H1 st1 ok1 r1 => ?_
                have r1' := r1
                obtain ⟨rfl, hS, p, dx, vs, rfl, hm, hF, hH, hp⟩ := insS_ok cc ok1 hi r1'
                obtain ⟨u, q1, q2⟩ := (pv_lookup hp f).1 _ hx
                refine ⟨p, C, dx, vs, u, rfl, hH, cc.cl, cc.no f hf, q1, ?_⟩
                refine sndE ok1 (ro_mono st1 ro) e2 _ fun w F2 m2 H2 st2 ok2 r2 => ?_
                refine h2 ok2 (rv_mono st2 q2) r2 e3 _ fun w' F3 m3 H3 st3 ok3 r3 => ?_
                obtain ⟨h4, hS3, p3, dx3, vs3, h5, hm3, hF3, hH3, hp3⟩ := insS_ok cc ok3 hi' (rv_mono (st2.trans st3) r1)
                cases h4
                cases h5
                obtain ⟨o4, s4⟩ := al_MC ok3 hm3 hS3 hF3 (c := .ins cn (putA f z fs')) (o := .ins C dx3 (putF f w' vs3)) ⟨hF3, C, dx3, _, cc.at_, upd_same, pv_put hp3 f r3⟩
                have sall := ((st1.trans st2).trans st3).trans s4
                exact ⟨dx3, vs3, hH3, by rw [← pr_len hp3]; exact hl, k _ _ _ _ sall o4 (ro_mono sall ro)⟩
              · cases e
            · cases e
          · cases e
        · cases e
      · cases e
    · cases e
  · cases e
/-! calls without arguments, of methods, of classes -/
variable {k n : Nat} {x mt : Str} {p : Pos} {φ : List Val → Sto → Option (Val × Sto)}
/-- the callee runs -/
theorem run_g {pins : List (Addr × Obj)} {σ : L2.St} {H : Hp} {s : Shared} {Q : VK} {us : List Value} {vs : List V} {f : Addr} {fd : FuncData} {ps : List Str} (F : FnG X.prog X.w X.K X.mg X.base k f fd ps n φ) (hn : ps.length = n) (hr : RoomG k X.A) (hb : Binds X.K fd ps [])
    (I : Inv X pins σ H s) (r : Vals vs us) (h : spOf X.K n φ vs H Q E0) : wpAny (model X.prog X.w) X.A (call (.ref f) us) (EP X pins σ Q) X.xe s := by
  have hl : us.length = ps.length := by
    rw [← r.length, hn]
    exact spOf_len vs H Q E0 h
  have hb' := hb s us I.kIn (by rw [List.append_nil]; exact hl)
  rw [List.append_nil] at hb'
  refine wpAny_call (codeAny_mono (F X.A X.stack s H ⟨us, []⟩ us vs Q hr I.env0 hb' r h) fun r s' hq => ?_)
  cases r with
  | error e => exact hq.elim
  | ok fl =>
    cases fl with
    | ret u => exact I.after hq
    | next => exact hq.elim
    | brk => exact hq.elim
    | cont => exact hq.elim
/-- f() -/
def eCall0 (φ : List Val → Sto → Option (Val × Sto)) : Ef := fun _ S => φ [] S
theorem ee_call0 (D : DefOk X.prog X.w X.K X.mg X.base k x 0 φ) (hr : RoomG k X.A) (hg : Gl X x := by rfl) (hdb : (x == ("__debug__" : Str)) = false := by decide) : EE X (.Call (.Name x p) [] [] pos) (eCall0 φ) := by
  obtain ⟨f, fd, ps, hn, F, hm, hk, hb⟩ := D
  have h1 : PE X (.Call (.Name x p) [] [] pos) (fun σ H Q => spOf X.K 0 φ [] H Q E0) := by
    constructor
    intro pins s σ H Q I h
    refine wpAny_Call_Name_kw (ld_glob I hg hm ?_ hdb)
    exact PySem.W.callWith_K0 I.kIn hk (run_g F hn hr hb I .nil h)
  refine ee_of h1 fun F0 m H S ρ σ res S' ok ro e Q k' => ?_
  exact ⟨F0, m, [], S, res, S', rfl, ok, .nil, e, k'⟩
/-- the method of a class keeps its promise -/
def MetOk (P : Program) (w : World) (K : PySem.W.Frag) (mg : Str → Option Value) (base : Heap) (k : Nat) (C : Addr) (m : Str) (n : Nat) (φ : List Val → Sto → Option (Val × Sto)) : Prop :=
  ∃ f fd ps, ps.length = n ∧ FnG P w K mg base k f fd ps n φ ∧ Meth K C m f ∧ Binds K fd ps []
theorem MetOk.mono {P : Program} {w : World} {K : PySem.W.Frag} {mg : Str → Option Value} {base : Heap} {j k : Nat} {C : Addr} {m : Str} {n : Nat} {φ : List Val → Sto → Option (Val × Sto)} (D : MetOk P w K mg base j C m n φ) (h : j ≤ k) : MetOk P w K mg base k C m n φ := by
  obtain ⟨f, fd, ps, h1, h2, h3⟩ := D
  exact ⟨f, fd, ps, h1, fun A outer s H args us vs Q hr => h2 A outer s H args us vs Q (hr.mono h), h3⟩
/-- o.m(..) -/
def eMeth (cn mt : Str) (n : Nat) (φ : List Val → Sto → Option (Val × Sto)) (fo : Ef) (fs : Af) : Ef := fun ρ S => bnd (fo ρ S) fun o S1 => match insS cn S1 o with
  | some (_, as0) => match as0.lookup mt with
    | some _ => none
    | none => bnd (fs ρ S1) fun as S2 => if as.length + 1 = n then φ (o :: as) S2 else none
  | none => none
theorem ee_meth {pl : Sem Bool} (cc : ClsQ X.K C cn fl) (D : MetOk X.prog X.w X.K X.mg X.base k C mt n φ) (hr : RoomG k X.A) (ho : EE X a fa) (ha : EA X (e :: es) fs)
    (hst : starEach (e :: es) X.env = (false, eval e X.env) :: starEach es X.env := by rfl) (hpl : (backTo pos (starEach es X.env)).any (·.1) = false := by rfl)
    (ht : eval (.Call (.Attribute a mt apos) (e :: es) [] pos) X.env = (do
      let ov ← eval a X.env
      standAt apos.atName
      let (f, first) ← holding [ov] (getMethod ov mt pl)
      callWith pos f first (backTo pos (starEach (e :: es) X.env)) (backToKw pos (keywordEach [] X.env))) := by rfl) : EE X (.Call (.Attribute a mt apos) (e :: es) [] pos) (eMeth cn mt n φ fa fs) := by
  obtain ⟨f, fd, ps, hn, F, hm, hb⟩ := D
  have h1 : PE X (.Call (.Attribute a mt apos) (e :: es) [] pos) (tMeth C mt (fun vs H Q _ => spOf X.K n φ vs H Q E0) [] E0 (tE X.K fa) (tA X.K fs)) := by
    refine ⟨fun pins s σ H Q I h => ?_⟩
    refine PySem.W.methodCall_KW (pl := pl) (thn (ho.run pins s σ H _ I h) fun u s1 ⟨x, H1, I1, rx, a, dx, fs, ex, ea, l, q⟩ => ?_) ht
    subst ex
    obtain rfl : u = Value.ref a := rx
    refine getmeth_ok I1 ea cc.cl hm l ?_
    refine PySem.W.callWith_K (first := [.ref a]) (h₀ := X.base) I.ok.mod.kin hm.kp (thn (ha.run pos pins s1 σ H1 _ I1 q) fun us s2 ⟨vs, H2, I2, r, q2⟩ => ⟨I2.kIn, ?_⟩) hst hpl
    exact run_g (us := .ref a :: us) (vs := .ref a :: vs) F hn hr hb I2 (.cons rfl r) (by simpa using q2)
  refine ee_of h1 fun F0 m H S ρ σ res S' ok ro e Q k' => ?_
  obtain ⟨o, S1, e1, e⟩ := bnd_inv e
  split at e
  · rename_i kk as0 hi
    split at e
    · cases e
    · rename_i hno
      obtain ⟨as, S2, e2, e⟩ := bnd_inv e
      split at e
      · rename_i hl
        refine sndE ok ro e1 _ fun v F1 m1 H1 st1 ok1 r1 => ?_
        have r1' := r1
        obtain ⟨rfl, hS, p, dx, vs, rfl, hm1, hF, hH, hp⟩ := insS_ok cc ok1 hi r1'
        refine ⟨p, dx, vs, rfl, hH, (pv_lookup hp mt).2 hno, ?_⟩
        refine sndA ok1 (ro_mono st1 ro) e2 _ fun ws F2 m2 H2 st2 ok2 r2 => ?_
        rw [List.append_nil]
        exact ⟨F2, m2, _ :: as, S2, res, S', by rw [List.length_cons]; exact hl, ok2, .cons (rv_mono st2 r1) r2, e, (k'.on st1).on st2⟩
      · cases e
  · cases e
/-- o.m() -/
theorem ee_meth0 {pl : Sem Bool} (cc : ClsQ X.K C cn fl) (D : MetOk X.prog X.w X.K X.mg X.base k C mt 1 φ) (hr : RoomG k X.A) (ho : EE X a fa)
    (ht : eval (.Call (.Attribute a mt apos) [] [] pos) X.env = (do
      let ov ← eval a X.env
      standAt apos.atName
      let (f, first) ← holding [ov] (getMethod ov mt pl)
      callWith pos f first (backTo pos (starEach [] X.env)) (backToKw pos (keywordEach [] X.env))) := by rfl) : EE X (.Call (.Attribute a mt apos) [] [] pos) (eMeth cn mt 1 φ fa aNil) := by
  obtain ⟨f, fd, ps, hn, F, hm, hb⟩ := D
  have h1 : PE X (.Call (.Attribute a mt apos) [] [] pos) (tMeth C mt (fun vs H Q _ => spOf X.K 1 φ vs H Q E0) [] E0 (tE X.K fa) tNil) := by
    refine ⟨fun pins s σ H Q I h => ?_⟩
    refine PySem.W.methodCall_KW (pl := pl) (thn (ho.run pins s σ H _ I h) fun u s1 ⟨x, H1, I1, rx, a, dx, fs, ex, ea, l, q⟩ => ?_) ht
    subst ex
    obtain rfl : u = Value.ref a := rx
    refine getmeth_ok I1 ea cc.cl hm l ?_
    exact PySem.W.callWith_K0 (first := [.ref a]) I1.kIn hm.kp (run_g (us := [.ref a]) (vs := [.ref a]) F hn hr hb I1 (.cons rfl .nil) q)
  refine ee_of h1 fun F0 m H S ρ σ res S' ok ro e Q k' => ?_
  obtain ⟨o, S1, e1, e⟩ := bnd_inv e
  split at e
  · rename_i kk as0 hi
    split at e
    · cases e
    · rename_i hno
      obtain ⟨as, S2, e2, e⟩ := bnd_inv e
      cases e2
      split at e
      · refine sndE ok ro e1 _ fun v F1 m1 H1 st1 ok1 r1 => ?_
        have r1' := r1
        obtain ⟨rfl, hS, p, dx, vs, rfl, hm1, hF, hH, hp⟩ := insS_ok cc ok1 hi r1'
        refine ⟨p, dx, vs, rfl, hH, (pv_lookup hp mt).2 hno, ?_⟩
        exact ⟨F1, m1, [_], S1, res, S', rfl, ok1, .cons r1 .nil, e, k'.on st1⟩
      · cases e
  · cases e
/-- a class whose __init__ keeps its promise -/
def MakOk (P : Program) (w : World) (K : PySem.W.Frag) (mg : Str → Option Value) (base : Heap) (k : Nat) (C : Addr) (cn : Str) (n : Nat) (φ : List Val → Sto → Option (Val × Sto)) : Prop :=
  ∃ f fd ps, ps.length = n ∧ FnG P w K mg base k f fd ps n φ ∧ Mk K C f ∧ Binds K fd ps [] ∧ mg cn = some (.ref C) ∧ PySem.W.nsIn K mainGlobals cn = some (some (.ref C))
theorem MakOk.mono {P : Program} {w : World} {K : PySem.W.Frag} {mg : Str → Option Value} {base : Heap} {j k : Nat} {C : Addr} {cn : Str} {n : Nat} {φ : List Val → Sto → Option (Val × Sto)} (D : MakOk P w K mg base j C cn n φ) (h : j ≤ k) : MakOk P w K mg base k C cn n φ := by
  obtain ⟨f, fd, ps, h1, h2, h3⟩ := D
  exact ⟨f, fd, ps, h1, fun A outer s H args us vs Q hr => h2 A outer s H args us vs Q (hr.mono h), h3⟩
def eMake (cn : Str) (n : Nat) (φ : List Val → Sto → Option (Val × Sto)) (fs : Af) : Ef := fun ρ S => bnd (fs ρ S) fun as S1 => if as.length + 1 = n then match φ (.c S1.length :: as) (S1 ++ [.ins cn []]) with
  | some (.d .none, S2) => some (.c S1.length, S2)
  | _ => none
  else none
theorem ee_make (D : MakOk X.prog X.w X.K X.mg X.base k C cn n φ) (hr : RoomG (k + 1) X.A) (ha : EA X (e :: es) fs) (hg : Gl X cn := by rfl) (hdb : (cn == ("__debug__" : Str)) = false := by decide)
    (he : starEach (e :: es) X.env = (false, eval e X.env) :: starEach es X.env := by rfl) (hpl : (backTo pos (starEach es X.env)).any (·.1) = false := by rfl) : EE X (.Call (.Name cn p) (e :: es) [] pos) (eMake cn n φ fs) := by
  obtain ⟨f, fd, ps, hn, F, M, hb, hm, hns⟩ := D
  have h1 : PE X (.Call (.Name cn p) (e :: es) [] pos) (tMake C (fun vs H Q _ => spOf X.K n φ vs H Q E0) [] E0 (tA X.K fs)) := by
    refine ⟨fun pins s σ H Q I h => ?_⟩
    refine wpAny_Call_Name_kw (ld_glob I hg hm ?_ hdb)
    refine PySem.W.callWith_K (h₀ := X.base) I.ok.mod.kin M.kp (thn (ha.run pos pins s σ H _ I h) fun us s1 ⟨vs, H1, I1, r, q⟩ => ⟨I1.kIn, ?_⟩) he hpl
    have hq := q (s1.heap.objs.size + 1) s1.heap.objs.size (I1.hok.fresh (Nat.le_succ _)) (I1.hok.fresh (Nat.le_refl _)) (Nat.ne_of_lt (Nat.lt_succ_self _))
    rw [List.append_nil] at hq
    have I2 := Inv.made (C := C) I1
    have r2 : Vals (V.ref (s1.heap.objs.size + 1) :: vs) (Value.ref (s1.heap.objs.size + 1) :: us) := .cons rfl r
    have hl : (Value.ref (s1.heap.objs.size + 1) :: us).length = ps.length := by
      rw [← r2.length, hn]
      exact spOf_len _ _ _ _ hq
    have hb' := hb _ (Value.ref (s1.heap.objs.size + 1) :: us) I2.kIn (by rw [List.append_nil]; exact hl)
    rw [List.append_nil] at hb'
    refine wpAny_call (make_map (f := f) I1.kIn M.makes M.init (beq_iff_eq.mp M.fn) (codeAny_mono (F _ X.stack _ _ ⟨Value.ref (s1.heap.objs.size + 1) :: us, []⟩ (Value.ref (s1.heap.objs.size + 1) :: us) _ _ ⟨hr.room.make C us [], ?_⟩
      (I2.env0.make C us []) hb' r2 hq) fun r s' hq' => ?_))
    · simp [Around.under, pushGuards_eq, hr.gd, Code.guards]
      rfl
    · cases r with
      | error e => exact hq'.elim
      | ok fl =>
        cases fl with
        | ret u =>
          obtain ⟨v, H', I3, rv, ev, q3⟩ := I2.after hq'
          subst ev
          exact ⟨rv, ⟨V.ref (s1.heap.objs.size + 1), H', I3, rfl, q3⟩⟩
        | next => exact hq'.elim
        | brk => exact hq'.elim
        | cont => exact hq'.elim
  refine ee_of h1 fun F0 m H S ρ σ res S' ok ro e Q k' => ?_
  obtain ⟨as, S1, e1, e⟩ := bnd_inv e
  split at e
  · rename_i hl
    split at e
    · rename_i S2 e2
      cases e
      refine sndA ok ro e1 _ fun vs F1 m1 H1 st1 ok1 r1 => ?_
      intro x dx nx ndx nex
      rw [List.append_nil]
      obtain ⟨hFd, hmd⟩ := ok1.none ndx
      have ok2 := al_O (o := .own x) ok1 hFd hmd
      have st2 := al_X (o := .own x) ok1 ndx
      have nx2 : upd H1 dx (.own x) x = none := by rw [upd_ne (Ne.symm nex)]; exact nx
      obtain ⟨ok3, st3, r3⟩ := al_NC ok2 nx2 (c := .ins cn []) (o := .ins C dx []) fun hF _ => ⟨hF, C, dx, [], hns, upd_same, .nil⟩
      refine ⟨F1, _, _, _, _, S', by rw [List.length_cons]; exact hl, ok3, .cons r3 (rvs_mono (st2.trans st3) r1), e2, fun v F4 m4 H4 st4 ok4 r4 => ⟨rv_none.mp r4, ?_⟩⟩
      exact k' _ _ _ _ (((st1.trans st2).trans st3).trans st4) ok4 (rv_mono st4 r3)
    · cases e
  · cases e
end
section
variable {P : Program} {w : World} {K : PySem.W.Frag} {mg : Str → Option Value} {base : Heap}
theorem met_ok {k n : Nat} {m x qual : Str} {st : Stmt} {f C : Addr} {fd : FuncData} {N ps : List Str} {fb : Sf} {φ : List Val → Sto → Option (Val × Sto)} (F : Fun K x qual st f fd) (hm : Meth K C m f) (Sc : FnScope N ps (defScope st)) (hb : Binds K fd ps []) (hn : ps.length = n)
    (hbody : ∀ (cdv : Value) (A : Around) (outer : List PySem.Env) (s : Shared) (H : Hp), RoomG k (A.deeper (envOfC qual (defScope st) s.heap.objs.size f cdv)) → SSs ((cxOf CX0 P w K mg base N qual (defScope st) f cdv A outer s H E0).nox) (defBody st) fb)
    (hφ : Does N.length n fb φ) : MetOk P w K mg base (k + 1) C m n φ := ⟨f, fd, ps, hn, fng_ok F Sc hn hbody hφ, hm, hb⟩
theorem mak_ok {k n : Nat} {cn x qual : Str} {st : Stmt} {f C : Addr} {fd : FuncData} {N ps : List Str} {fb : Sf} {φ : List Val → Sto → Option (Val × Sto)} (F : Fun K x qual st f fd) (hm : Mk K C f) (gm : mg cn = some (.ref C)) (hns : PySem.W.nsIn K mainGlobals cn = some (some (.ref C))) (Sc : FnScope N ps (defScope st)) (hb : Binds K fd ps []) (hn : ps.length = n)
    (hbody : ∀ (cdv : Value) (A : Around) (outer : List PySem.Env) (s : Shared) (H : Hp), RoomG k (A.deeper (envOfC qual (defScope st) s.heap.objs.size f cdv)) → SSs ((cxOf CX0 P w K mg base N qual (defScope st) f cdv A outer s H E0).nox) (defBody st) fb)
    (hφ : Does N.length n fb φ) : MakOk P w K mg base (k + 1) C cn n φ := ⟨f, fd, ps, hn, fng_ok F Sc hn hbody hφ, hm, hb, gm, hns⟩
theorem met_none {k n : Nat} {m x qual : Str} {st : Stmt} {f C : Addr} {fd : FuncData} {ps : List Str} (F : Fun K x qual st f fd) (hm : Meth K C m f) (hb : Binds K fd ps []) (hn : ps.length = n) :
    MetOk P w K mg base k C m n fun _ _ => none :=
  ⟨f, fd, ps, hn, (fun A outer s H args us vs Q hr e0 hbd r hsp => (by
    obtain ⟨F0, m0, as, S, rr, S', h1, ok, rv, ep, kk⟩ := hsp
    cases ep) : FnG P w K mg base k f fd ps n fun _ _ => none), hm, hb⟩
end
end QL

namespace QL
open PySem PySem.Spec PyProof.Rows L2
/-! ### locks and walks over dicts, said -/
section
variable {S : Sto} {ρ : Rho} {Q : Fl → Rho → Sto → Prop} {i k : Nat} {u : Sf} {f : Ef}
def kLock (u : Sf) (Q : Fl → Rho → Sto → Prop) (ρ : Rho) (S : Sto) : Option (Option Val) → Prop
  | some (some a) => ∃ S1, lock1 a S = some S1 ∧ QL.wpS (u ρ S1) Q
  | _ => False
theorem w_lock : QL.wpS (sLock i u ρ S) Q ↔ kLock u Q ρ S ρ[i]? := by
  unfold sLock
  cases h : ρ[i]? with
  | none => exact nn QL.wpS_none (fun z => z)
  | some o =>
    cases o with
    | none => exact nn QL.wpS_none (fun z => z)
    | some a =>
      show QL.wpS (match lock1 a S with | some S1 => u ρ S1 | none => none) Q ↔ ∃ S1, lock1 a S = some S1 ∧ QL.wpS (u ρ S1) Q
      cases h2 : lock1 a S with
      | none => exact nn QL.wpS_none (fun ⟨S2, e, q⟩ => by cases e)
      | some S1 => exact ⟨fun q => ⟨S1, rfl, q⟩, fun ⟨S2, e, q⟩ => by cases e; exact q⟩
theorem kLock_eq {a : Val} : kLock u Q ρ S (some (some a)) = ∃ S1, lock1 a S = some S1 ∧ QL.wpS (u ρ S1) Q := rfl
theorem lock_k {kvs : List (L2.Key × Val)} (h : S[k]? = some (.dk kvs)) : lock1 (.c k) S = some (S.set k (.fk kvs)) := by
  unfold lock1
  simp only [h]
theorem lock_t {kvs : List (List L2.Key × Val)} (h : S[k]? = some (.dt kvs)) : lock1 (.c k) S = some (S.set k (.ft kvs)) := by
  unfold lock1
  simp only [h]
theorem lock_fk {kvs : List (L2.Key × Val)} (h : S[k]? = some (.fk kvs)) : lock1 (.c k) S = some S := by
  unfold lock1
  simp only [h]
theorem lock_ft {kvs : List (List L2.Key × Val)} (h : S[k]? = some (.ft kvs)) : lock1 (.c k) S = some S := by
  unfold lock1
  simp only [h]
def dk0 (a : Val) (S : Sto) : Option (List PyData × Sto) := match a with
  | .c k => match S[k]? with
    | some (.fk kvs) => some (kvs.map fun p => unK p.1, S)
    | some (.ft kvs) => some (kvs.map fun p => .tuple (p.1.map unK), S)
    | _ => none
  | _ => none
theorem q_addJ {i j : Int} : gAddI (.d (.int i)) (.d (.int j)) S = some (.d (.int (i + j)), S) := rfl
theorem x_iDk : iDk f ρ S = bnd (f ρ S) dk0 := by
  unfold iDk bnd
  cases h : f ρ S with
  | none => rfl
  | some p =>
    obtain ⟨a, S1⟩ := p
    cases a <;> rfl
theorem dk0_fk {kvs : List (L2.Key × Val)} (h : S[k]? = some (.fk kvs)) : dk0 (.c k) S = some (kvs.map fun p => unK p.1, S) := by
  unfold dk0
  simp only [h]
theorem dk0_ft {kvs : List (List L2.Key × Val)} (h : S[k]? = some (.ft kvs)) : dk0 (.c k) S = some (kvs.map fun p => .tuple (p.1.map unK), S) := by
  unfold dk0
  simp only [h]
end
/-! ### d[k] among the targets of an assignment; d[k] op= e -/
section
variable {X : Cx} {a b c : Expr} {pos tpos : Pos} {fa fb fc : Ef}
def gSubD (fo fi : Ef) : Gf := fun v ρ S => match fo ρ S with
  | some (o, S1) => match fi ρ S1 with
    | some (i, S2) => match dPt S2 o i v with
      | some S3 => some (ρ, S3)
      | none => none
    | none => none
  | none => none
theorem eg_subD {k : Nat} (hr : RoomG k X.A) (ho : EE X a fa) (hi : EE X b fb)
    (hs : ∀ v, assign (.Subscript a b pos) X.env v = (do
      let ov ← holding [v] (eval a X.env)
      let iv ← holding [v, ov] (eval b X.env)
      standAt pos
      holding [v, ov, iv] (setItem ov iv v)
      release [v, ov, iv] []) := by intro _; rfl) : EG X (.Subscript a b pos) (gSubD fa fb) := eg_of (pg_sub ho hi (set_dict (hu1 hr)) hs) fun F m H S ρ σ x v ρ' S' ok ro ra e Q k => by
  unfold gSubD at e
  split at e
  · rename_i o S1 h1
    split at e
    · rename_i i S2 h2
      split at e
      · rename_i S3 h3
        cases e
        refine sndE ok ro h1 _ fun ov F1 m1 H1 st1 ok1 r1 => ?_
        refine sndE ok1 (ro_mono st1 ro) h2 _ fun iv F2 m2 H2 st2 ok2 r2 => ?_
        have stt := st1.trans st2
        obtain ⟨p, H3, rfl, g, ok3, st3⟩ := dPt_ok ok2 (rv_mono st2 r1) r2 (rv_mono stt ra) h3
        exact ⟨p, H3, rfl, g, k _ _ _ _ (stt.trans st3) ok3 (ro_mono (stt.trans st3) ro)⟩
      · cases e
    · cases e
  · cases e
theorem w_gSubD {ρ : Rho} {S : Sto} {fo fi : Ef} {v : Val} {Q : Rho → Sto → Prop} : wp (gSubD fo fi v ρ S) Q ↔ wp (fo ρ S) fun o S1 => wp (fi ρ S1) fun i S2 => ∃ S3, dPt S2 o i v = some S3 ∧ Q ρ S3 := by
  unfold gSubD
  cases h : fo ρ S with
  | none => exact nn wp_none wp_none
  | some p =>
    obtain ⟨o, S1⟩ := p
    rw [wp_some]
    simp only []
    cases h2 : fi ρ S1 with
    | none => exact nn wp_none wp_none
    | some q =>
      obtain ⟨i, S2⟩ := q
      rw [wp_some]
      simp only []
      cases h3 : dPt S2 o i v with
      | none => exact nn wp_none (by rintro ⟨_, q, _⟩; cases q)
      | some S3 =>
        refine (wp_some (Q := Q)).trans ⟨fun h => ⟨S3, rfl, h⟩, ?_⟩
        rintro ⟨_, q, h⟩
        cases q
        exact h
def sDa (g : Val → Val → Sto → Option (Val × Sto)) (fo fk fv : Ef) : Sf := fun ρ S => match fo ρ S with
  | some (o, S1) => match fk ρ S1 with
    | some (k, S2) => match dLk S2 o k with
      | some (some x) => match fv ρ S2 with
        | some (y, S3) => match g x y S3 with
          | some (z, S4) => match dPt S4 o k z with
            | some S5 => some (.nx, ρ, S5)
            | none => none
          | none => none
        | none => none
      | _ => none
    | none => none
  | none => none
theorem ss_da {op : Operator} {k : Nat} {g : Val → Val → Sto → Option (Val × Sto)} (hr : RoomG k X.A) (hg : OpG X (inplaceOp op) g) (ho : EE X a fa) (hi : EE X b fb) (he : EE X c fc)
    (hs : ∀ ov iv new, augStore b ov iv new = (do holding [new, ov, iv] (setItem ov iv new); release [new, ov, iv] []; pure .next) := by intros; rfl) : SS X (.AugAssign (.Subscript a b tpos) op c pos) (sDa g fa fb fc) := by
  obtain ⟨r, h1, h2⟩ := hg
  refine ss_of (ps_daug (rd := r) (hu1 hr) ho hi he (fun pins s σ H x y u v Q I rx ry h => h1 pins s σ H x y u v Q I rx ry h) hs) fun F m H S ρ σ fl ρ' S' ok ro e D k => ?_
  unfold sDa at e
  split at e
  · rename_i o S1 q1
    split at e
    · rename_i i S2 q2
      split at e
      · rename_i x q3
        split at e
        · rename_i y S3 q4
          split at e
          · rename_i z S4 q5
            split at e
            · rename_i S5 q6
              cases e
              refine sndE ok ro q1 _ fun v1 F1 m1 H1 st1 ok1 r1 => ?_
              refine sndE ok1 (ro_mono st1 ro) q2 _ fun v2 F2 m2 H2 st2 ok2 r2 => ?_
              obtain ⟨p, w, rfl, gg, hx, _⟩ := dLk_ok ok2 (rv_mono st2 r1) r2 q3
              obtain ⟨w, rfl, rw⟩ := hx _ rfl
              refine ⟨p, w, rfl, gg, ?_⟩
              refine sndE ok2 (ro_mono (st1.trans st2) ro) q4 _ fun v4 F4 m4 H4 st4 ok4 r4 => ?_
              refine h2 ok4 (rv_mono st4 rw) r4 q5 _ fun v5 F5 m5 H5 st5 ok5 r5 => ?_
              have s25 := st4.trans st5
              obtain ⟨p', H6, e6, g6, ok6, st6⟩ := dPt_ok ok5 (rv_mono (st2.trans s25) r1) (rv_mono s25 r2) r5 q6
              cases e6
              have sall := ((st1.trans st2).trans s25).trans st6
              exact ⟨H6, g6, k _ _ _ _ sall ok6 (ro_mono sall ro)⟩
            · cases e
          · cases e
        · cases e
      · cases e
    · cases e
  · cases e
end
/-! ### dicts whose keys are ints -/
abbrev kvI (kv : List (Int × Val)) : List (L2.Key × Val) := kv.map fun e => ((Sum.inl e.1 : L2.Key), e.2)
/-- open, or closed -/
abbrev cI (kv : List (Int × Val)) : Cell := .dk (kvI kv)
abbrev fI (kv : List (Int × Val)) : Cell := .fk (kvI kv)
def lkI (kv : List (Int × Val)) (x : Int) : Option Val := (kv.find? fun p => decide (p.1 = x)).map Prod.snd
section
variable {S : Sto} {ρ : Rho} {i k : Nat} {x : Int} {v : Val} {kv : List (Int × Val)}
theorem lkQ_I (kv : List (Int × Val)) (x : Int) : lkQ (κ := L2.Key) (kvI kv) (.inl x) = lkI kv x := by
  unfold lkQ lkI
  induction kv with
  | nil => rfl
  | cons p r ih =>
    show ((((Sum.inl p.1 : L2.Key), p.2) :: kvI r).find? _).map _ = _
    rw [List.find?_cons, List.find?_cons]
    by_cases e : p.1 = x
    · simp [e]
    · have : ¬ (Sum.inl p.1 : L2.Key) = .inl x := fun z => e (Sum.inl.inj z)
      simp only [decide_eq_false this, decide_eq_false e]
      exact ih
theorem dl_cI (h : S[i]? = some (cI kv)) : dLk S (.c i) (.d (.int x)) = some (lkI kv x) := by
  unfold dLk
  simp only [h]
  show some (lkQ _ (Sum.inl x)) = _
  rw [lkQ_I]
theorem dl_fI (h : S[i]? = some (fI kv)) : dLk S (.c i) (.d (.int x)) = some (lkI kv x) := by
  unfold dLk
  simp only [h]
  show some (lkQ _ (Sum.inl x)) = _
  rw [lkQ_I]
theorem dg_of {o key : Val} {r : Val} (h : dLk S o key = some (some r)) : gDg o key S = some (r, S) := by
  unfold gDg
  rw [h]
theorem din_of {neg : Bool} {o key : Val} {r : Option Val} (h : dLk S o key = some r) : gDin neg key o S = some (.d (.bool (xor neg r.isSome)), S) := by
  unfold gDin
  rw [h]
theorem lkI_none : lkI kv x = none ↔ x ∉ kv.map Prod.fst := by
  unfold lkI
  rw [Option.map_eq_none_iff, List.find?_eq_none]
  constructor
  · intro h hx
    obtain ⟨p, hp, e⟩ := List.mem_map.mp hx
    exact absurd (decide_eq_true e) (h p hp)
  · intro h p hp e
    exact h (List.mem_map.mpr ⟨p, hp, of_decide_eq_true e⟩)
theorem lkI_some (hn : (kv.map Prod.fst).Nodup) : lkI kv x = some v ↔ (x, v) ∈ kv := by
  induction kv with
  | nil => simp [lkI]
  | cons p r ih =>
    rw [List.map_cons, List.nodup_cons] at hn
    have hc : lkI (p :: r) x = if p.1 = x then some p.2 else lkI r x := by
      unfold lkI
      rw [List.find?_cons]
      by_cases e : p.1 = x <;> simp [e]
    rw [hc, List.mem_cons]
    by_cases e : p.1 = x
    · rw [if_pos e]
      constructor
      · intro h
        left
        rw [← e, ← Option.some.inj h]
      · rintro (h | h)
        · rw [← h]
        · exact absurd (List.mem_map.mpr ⟨_, h, e.symm⟩) hn.1
    · rw [if_neg e, ih hn.2]
      constructor
      · exact .inr
      · rintro (h | h)
        · exact absurd (by rw [← h]) e
        · exact h
theorem lkI_isSome : (lkI kv x).isSome = decide (x ∈ kv.map Prod.fst) := by
  cases h : lkI kv x with
  | none => rw [decide_eq_false (lkI_none.mp h)]; rfl
  | some v =>
    rw [decide_eq_true]
    · rfl
    · exact Classical.byContradiction fun z => by rw [lkI_none.mpr z] at h; cases h
theorem putQ_I (h : x ∉ kv.map Prod.fst) : putQ (κ := L2.Key) (kvI kv) (.inl x) v = kvI (kv ++ [(x, v)]) := by
  unfold putQ
  rw [if_neg]
  · simp [kvI]
  · intro z
    rw [List.any_eq_true] at z
    obtain ⟨p, hp, e⟩ := z
    obtain ⟨q, hq, rfl⟩ := List.mem_map.mp hp
    exact h (List.mem_map.mpr ⟨q, hq, Sum.inl.inj (of_decide_eq_true e)⟩)
theorem dpt_cI (h : S[i]? = some (cI kv)) (hx : x ∉ kv.map Prod.fst) (hz : kv.length < 16777216) : dPt S (.c i) (.d (.int x)) v = some (S.set i (cI (kv ++ [(x, v)]))) := by
  unfold dPt
  simp only [h]
  rw [if_pos (by rw [List.length_map]; exact hz)]
  show some (S.set i (.dk (putQ _ (Sum.inl x) _))) = _
  rw [putQ_I hx]
/-- an entry that is there told anew -/
def putI (kv : List (Int × Val)) (x : Int) (v : Val) : List (Int × Val) := if x ∈ kv.map Prod.fst then kv.map (fun p => if p.1 = x then (p.1, v) else p) else kv ++ [(x, v)]
theorem putQ_I' : putQ (κ := L2.Key) (kvI kv) (.inl x) v = kvI (putI kv x v) := by
  by_cases h : x ∈ kv.map Prod.fst
  · unfold putQ putI
    rw [if_pos h, if_pos]
    · show (kv.map _).map _ = (kv.map _).map _
      rw [List.map_map, List.map_map]
      refine List.map_congr_left fun p _ => ?_
      by_cases e : p.1 = x
      · simp [e]
      · have : ¬ (Sum.inl p.1 : L2.Key) = .inl x := fun z => e (Sum.inl.inj z)
        simp [e, this]
    · obtain ⟨p, hp, e⟩ := List.mem_map.mp h
      rw [List.any_eq_true]
      exact ⟨_, List.mem_map.mpr ⟨p, hp, rfl⟩, by simp [e]⟩
  · rw [putQ_I h]
    unfold putI
    rw [if_neg h]
theorem dpt_I (h : S[i]? = some (cI kv)) (hz : kv.length < 16777216) : dPt S (.c i) (.d (.int x)) v = some (S.set i (cI (putI kv x v))) := by
  unfold dPt
  simp only [h]
  rw [if_pos (by rw [List.length_map]; exact hz)]
  show some (S.set i (.dk (putQ _ (Sum.inl x) _))) = _
  rw [putQ_I']
theorem keys_fI (h : S[i]? = some (fI kv)) : dk0 (.c i) S = some ((kv.map Prod.fst).map .int, S) := by
  rw [dk0_fk h, List.map_map, List.map_map]
  rfl
end
end QL

namespace QL
open PySem PySem.Spec PyProof.Rows L2
/-! ### zip of a tuple and a list, either way about -/
/-- what a source of a zip is -/
inductive Src where
  | ls | tp
namespace Src
def It : Src → Heap → Addr → Addr → Nat → Prop
  | ls => fun h i l k => h.IsListIter i l k
  | tp => fun h i l k => h.IsTupleIter i l k
def Sq : Src → Heap → Addr → Array Value → Prop
  | ls => fun h l xs => h.IsList l xs
  | tp => fun h l xs => h.IsTuple l xs
def ty : Src → String
  | ls => "list_iterator"
  | tp => "tuple_iterator"
def Rd (K : PySem.W.Frag) : Src → Hp → Addr → List V → Prop
  | ls => SqL K
  | tp => SqT K
end Src
section
variable {prog : Program} {w : World} {A : Around} {E : Value → Shared → Prop} {s : Shared} {c c1 c2 : Src} {h h' : Heap} {i l : Addr} {k : Nat} {xs ys : Array Value}
theorem Src.It.at (st : c.It h i l k) (q : ∀ o, h.get? i = some o → h'.get? i = some o) : c.It h' i l k := by
  cases c with
  | ls => exact Heap.IsListIter.at st q
  | tp => exact Heap.IsTupleIter.at st q
theorem Src.Sq.at (st : c.Sq h l xs) (q : ∀ o, h.get? l = some o → h'.get? l = some o) : c.Sq h' l xs := by
  cases c with
  | ls => obtain ⟨o, e, r⟩ := st; exact ⟨o, q _ e, r⟩
  | tp => obtain ⟨o, e, r⟩ := st; exact ⟨o, q _ e, r⟩
theorem Src.It.obj (st : c.It h i l k) : ∃ o, h.get? i = some o ∧ ∀ v, o.data ≠ .cell v := by
  cases c with
  | ls => obtain ⟨o, e, _, d⟩ := st; exact ⟨o, e, fun v q => by rw [d] at q; cases q⟩
  | tp => obtain ⟨o, e, _, d⟩ := st; exact ⟨o, e, fun v q => by rw [d] at q; cases q⟩
theorem Src.item {x : Value} {Q : Value → Shared → Prop} (st : c.It s.heap i l k) (sq : c.Sq s.heap l xs) (hx : xs[k]? = some x) (hQ : ∀ h', c.It h' i l (k + 1) → Heap.SameBut i s.heap h' → Q x { s with heap := h' }) :
    wpAny (model prog w) A (Builtin.SmallTypes.nextOf (.ref i)) Q E s := by
  cases c with
  | ls => exact wpAny_nextOf_list_item st sq hx hQ
  | tp => exact RZ.nextOf_tuple_item st sq hx hQ
theorem Src.stop {Q : Value → Shared → Prop} (hh : A.handled = none) (st : c.It s.heap i l k) (sq : c.Sq s.heap l xs) (hx : xs[k]? = none)
    (hE : ∀ h' e, Heap.ExtBut i s.heap h' → (∃ o, h'.get? e = some o ∧ o.cls = .type "StopIteration") → E (.ref e) { s with heap := h' }) : wpAny (model prog w) A (Builtin.SmallTypes.nextOf (.ref i)) Q E s := by
  cases c with
  | ls => exact wpAny_nextOf_list_end hh st sq hx hE
  | tp => exact RZ.nextOf_tuple_end hh st sq hx hE
theorem Src.start {Q : Value → Shared → Prop} (sq : c.Sq s.heap l xs) (hQ : Q (.ref s.heap.objs.size) { s with heap := s.heap.push { cls := .type c.ty, data := .fields #[.ref l, .int 0 0] } }) : wpAny (model prog w) A (pyIter (.ref l)) Q E s := by
  cases c with
  | ls => exact wpAny_pyIter_list sq hQ
  | tp => exact wpAny_pyIter_tuple sq hQ
theorem Src.begin (e : h.get? i = some { cls := .type c.ty, data := .fields #[.ref l, .int 0 0] }) : c.It h i l 0 := by
  cases c with
  | ls => exact ⟨_, e, rfl, rfl⟩
  | tp => exact ⟨_, e, rfl, rfl⟩
theorem Src.Sq.lt (sq : c.Sq h l xs) : l < h.objs.size := by
  cases c with
  | ls => obtain ⟨o, e, _⟩ := sq; exact Heap.lt_size e
  | tp => obtain ⟨o, e, _⟩ := sq; exact Heap.lt_size e
variable {z TI TO i1 i2 l1 l2 : Addr} {k1 k2 : Nat} {a b : Value}
/-- how a zip of such sources stands ahead of a turn -/
structure ZS (c1 c2 : Src) (h : Heap) (z TI TO i1 i2 l1 l2 : Addr) (k : Nat) : Prop where
  z : IsZip h z TI TO .none
  I : IsPair h TI (.ref i1) (.ref i2)
  O : ∃ x y, IsPair h TO x y
  s1 : c1.It h i1 l1 k
  s2 : c2.It h i2 l2 k
/-- all but the zip's own objects is kept -/
def ZKeep (z TO i1 i2 : Addr) (h h' : Heap) : Prop := ∀ c o, c ≠ z → c ≠ TO → c ≠ i1 → c ≠ i2 → h.get? c = some o → h'.get? c = some o
theorem zm_item {x y : Value} {Q : Value → Shared → Prop} (D : ZipApart z TI TO i1 i2 l1 l2) (st : ZS c1 c2 s.heap z TI TO i1 i2 l1 l2 k) (q1 : c1.Sq s.heap l1 xs) (q2 : c2.Sq s.heap l2 ys) (hx : xs[k]? = some x) (hy : ys[k]? = some y)
    (hQ : ∀ h', IsZip h' z TI TO (rawInt s.heap.objs.size) → IsPair h' TO x y → c1.It h' i1 l1 (k + 1) → c2.It h' i2 l2 (k + 1) → IsPair h' s.heap.objs.size x y → ZKeep z TO i1 i2 s.heap h' → Q (.ref s.heap.objs.size) { s with heap := h' }) :
    wpAny (model prog w) A (Builtin.«zip.__next__» ⟨[.ref z], []⟩) (fun fin s' => ∃ v, fin = .done (.ret v) ∧ Q v s') E s := by
  obtain ⟨hz, hI, ⟨a, b, hO⟩, h1, h2⟩ := st
  show wpAny _ _ (field (.ref z) 2 >>= _) _ _ _
  refine wpAny_bind (wpAny_field hz rfl (x := .bool false) rfl ?_)
  show wpAny _ _ (field (.ref z) 3 >>= _) _ _ _
  refine wpAny_bind (wpAny_field hz rfl (x := .ref TI) rfl (wpAny_bind (wpAny_seqItems hI rfl ?_)))
  show wpAny _ _ (Builtin.SmallTypes.ownedTupleIsFree (.ref z) >>= _) _ _ _
  unfold Builtin.SmallTypes.ownedTupleIsFree
  refine wpAny_bind (wpAny_bind (wpAny_field hz rfl (x := .none) rfl (wpAny_pure ?_)))
  simp only [if_true]
  refine wpAny_bind (wpAny_rule (wpAny_bind (wpAny_field hz rfl (x := .ref TO) rfl (wpAny_bind (wpAny_setField_rec hz (by simp) fun g1 z1 e1 => ?_)))))
  have z1 : IsZip g1 z TI TO .ellipsis := z1
  refine wpAny_bind ?_
  simp only [List.zipIdx_cons, List.zipIdx_nil, List.forIn_cons, List.forIn_nil]
  -- the first source
  refine wpAny_bind (wpAny_bind (wpAny_onRaise ?_))
  show wpAny _ _ (Builtin.SmallTypes.nextOf (.ref i1) >>= _) _ _ _
  refine wpAny_bind (Src.item (h1.at (h' := g1) fun o => e1.extBut _ _ D.i1z) (q1.at fun o => e1.extBut _ _ D.l1z) hx fun g2 t1 e2 => wpAny_pure ?_)
  have O2 : IsPair g2 TO a b := e2.extBut _ _ D.TOi1 (e1.extBut _ _ D.TOz hO)
  refine wpAny_bind (wpAny_seqItems O2 rfl (wpAny_bind (wpAny_updateSeq_pair O2 fun g3 O3 e3 => wpAny_bind (wpAny_letGo (wpAny_pure ?_)))))
  have O3 : IsPair g3 TO x b := O3
  -- the second one
  refine wpAny_bind (wpAny_bind (wpAny_onRaise ?_))
  show wpAny _ _ (Builtin.SmallTypes.nextOf (.ref i2) >>= _) _ _ _
  have go3 : ∀ c o, c ≠ z → c ≠ i1 → c ≠ TO → s.heap.get? c = some o → g3.get? c = some o := fun c o n1 n2 n3 q => e3.extBut _ _ n3 (e2.extBut _ _ n2 (e1.extBut _ _ n1 q))
  refine wpAny_bind (Src.item (h2.at (h' := g3) fun o => go3 _ _ D.i2z D.i12.symm D.TOi2.symm) (q2.at fun o => go3 _ _ D.l2z D.l2i1 D.l2TO) hy fun g4 t2 e4 => wpAny_pure ?_)
  have O4 : IsPair g4 TO x b := e4.extBut _ _ D.TOi2 O3
  refine wpAny_bind (wpAny_seqItems O4 rfl (wpAny_bind (wpAny_updateSeq_pair O4 fun g5 O5 e5 => wpAny_bind (wpAny_letGo (wpAny_pure (wpAny_pure ?_))))))
  have O5 : IsPair g5 TO x y := O5
  refine wpAny_bind (wpAny_seqItems O5 rfl (wpAny_bind (wpAny_newTuple ?_)))
  have sz : g5.objs.size = s.heap.objs.size := by rw [e5.1, e4.1, e3.1, e2.1, e1.1]
  have go5 : ZKeep z TO i1 i2 s.heap g5 := fun c o n1 n2 n3 n4 q => e5.extBut _ _ n2 (e4.extBut _ _ n4 (go3 c o n1 n3 n2 q))
  have z5 : IsZip g5 z TI TO .ellipsis := e5.extBut _ _ D.TOz.symm (e4.extBut _ _ D.i2z.symm (e3.extBut _ _ D.TOz.symm (e2.extBut _ _ D.i1z.symm z1)))
  have t1 : c1.It g5 i1 l1 (k + 1) := t1.at fun o q => e5.extBut _ _ D.TOi1.symm (e4.extBut _ _ D.i12 (e3.extBut _ _ D.TOi1.symm q))
  have t2 : c2.It g5 i2 l2 (k + 1) := t2.at fun o q => e5.extBut _ _ D.TOi2.symm q
  show wpAny _ _ (Builtin.SmallTypes.ownedTupleHandOut (.ref z) (.ref g5.objs.size) >>= _) _ _ _
  unfold Builtin.SmallTypes.ownedTupleHandOut
  have z6 : IsZip (g5.push { cls := .type "tuple", data := .seq #[x, y] }) z TI TO .ellipsis := Heap.get?_push_of_some _ z5
  refine wpAny_bind (wpAny_bind (wpAny_setField_rec z6 (by simp) fun g7 z7 e7 => ?_))
  have z7 : IsZip g7 z TI TO (rawInt g5.objs.size) := z7
  refine wpAny_setField_rec z7 (by simp) fun g8 z8 e8 => ?_
  have z8 : IsZip g8 z TI TO (rawInt g5.objs.size) := z8
  have up : ∀ c o, c ≠ z → g5.get? c = some o → g8.get? c = some o := fun c o n q => e8.extBut _ _ n (e7.extBut _ _ n (Heap.get?_push_of_some _ q))
  have hP : IsPair g8 g5.objs.size x y := e8.extBut _ _ (Nat.ne_of_gt (Heap.lt_size z5)) (e7.extBut _ _ (Nat.ne_of_gt (Heap.lt_size z5)) (Heap.get?_push_size _ rfl))
  rw [sz] at z8 hP
  refine wpAny_pure ⟨_, rfl, ?_⟩
  show Q (.ref g5.objs.size) _
  rw [sz]
  exact hQ g8 z8 (up _ _ D.TOz O5) (t1.at fun o => up _ o D.i1z) (t2.at fun o => up _ o D.i2z) hP fun c o n1 n2 n3 n4 q => up c o n1 (go5 c o n1 n2 n3 n4 q)
theorem zm_stop {Q : Fin → Shared → Prop} (hh : A.handled = none) (D : ZipApart z TI TO i1 i2 l1 l2) (st : ZS c1 c2 s.heap z TI TO i1 i2 l1 l2 k) (q1 : c1.Sq s.heap l1 xs) (q2 : c2.Sq s.heap l2 ys) (hend : xs[k]? = none ∨ ys[k]? = none)
    (hE : ∀ h' e, ZKeep z TO i1 i2 s.heap h' → (∃ o, h'.get? e = some o ∧ o.cls = .type "StopIteration") → E (.ref e) { s with heap := h' }) :
    wpAny (model prog w) A (Builtin.«zip.__next__» ⟨[.ref z], []⟩) Q E s := by
  obtain ⟨hz, hI, ⟨a, b, hO⟩, h1, h2⟩ := st
  show wpAny _ _ (field (.ref z) 2 >>= _) _ _ _
  refine wpAny_bind (wpAny_field hz rfl (x := .bool false) rfl ?_)
  show wpAny _ _ (field (.ref z) 3 >>= _) _ _ _
  refine wpAny_bind (wpAny_field hz rfl (x := .ref TI) rfl (wpAny_bind (wpAny_seqItems hI rfl ?_)))
  show wpAny _ _ (Builtin.SmallTypes.ownedTupleIsFree (.ref z) >>= _) _ _ _
  unfold Builtin.SmallTypes.ownedTupleIsFree
  refine wpAny_bind (wpAny_bind (wpAny_field hz rfl (x := .none) rfl (wpAny_pure ?_)))
  simp only [if_true]
  refine wpAny_bind (wpAny_rule (wpAny_bind (wpAny_field hz rfl (x := .ref TO) rfl (wpAny_bind (wpAny_setField_rec hz (by simp) fun g1 z1 e1 => ?_)))))
  have z1 : IsZip g1 z TI TO .ellipsis := z1
  refine wpAny_bind ?_
  simp only [List.zipIdx_cons, List.zipIdx_nil, List.forIn_cons, List.forIn_nil]
  -- an end of a source: the zip is closed, the exception goes on
  have fin : ∀ (g : Heap) (e : Addr), IsZip g z TI TO .ellipsis → (∀ c o, c ≠ z → c ≠ TO → c ≠ i1 → c ≠ i2 → s.heap.get? c = some o → g.get? c = some o) → (∃ o, g.get? e = some o ∧ o.cls = .type "StopIteration") →
      ∃ oe, g.get? e = some oe ∧ e ≠ z ∧ oe.cls = .type "StopIteration" := fun g e hzg _ ⟨oe, q, cc⟩ => ⟨oe, q, fun n => by subst n; rw [hzg] at q; cases q; simp at cc, cc⟩
  refine wpAny_bind (wpAny_bind (wpAny_onRaise ?_))
  show wpAny _ _ (Builtin.SmallTypes.nextOf (.ref i1) >>= _) _ _ _
  cases hx : xs[k]? with
  | none =>
    refine wpAny_bind (Src.stop hh (h1.at (h' := g1) fun o => e1.extBut _ _ D.i1z) (q1.at fun o => e1.extBut _ _ D.l1z) hx fun g2 e e2 he => ?_)
    have z2 : IsZip g2 z TI TO .ellipsis := e2 _ _ D.i1z.symm z1
    have go2 : ZKeep z TO i1 i2 s.heap g2 := fun c o n1 _ n3 _ q => e2 _ _ n3 (e1.extBut _ _ n1 q)
    obtain ⟨oe, w1, w2, w3⟩ := fin g2 e z2 go2 he
    exact wpAny_setField_rec z2 (by simp) fun g3 _ e3 => hE g3 e (fun c o n1 n2 n3 n4 q => e3.extBut _ _ n1 (go2 c o n1 n2 n3 n4 q)) ⟨oe, e3.extBut _ _ w2 w1, w3⟩
  | some x =>
    have hy : ys[k]? = none := hend.resolve_left (by rw [hx]; simp)
    refine wpAny_bind (Src.item (h1.at (h' := g1) fun o => e1.extBut _ _ D.i1z) (q1.at fun o => e1.extBut _ _ D.l1z) hx fun g2 t1 e2 => wpAny_pure ?_)
    have O2 : IsPair g2 TO a b := e2.extBut _ _ D.TOi1 (e1.extBut _ _ D.TOz hO)
    refine wpAny_bind (wpAny_seqItems O2 rfl (wpAny_bind (wpAny_updateSeq_pair O2 fun g3 O3 e3 => wpAny_bind (wpAny_letGo (wpAny_pure ?_)))))
    refine wpAny_bind (wpAny_bind (wpAny_onRaise ?_))
    show wpAny _ _ (Builtin.SmallTypes.nextOf (.ref i2) >>= _) _ _ _
    have go3 : ∀ c o, c ≠ z → c ≠ i1 → c ≠ TO → s.heap.get? c = some o → g3.get? c = some o := fun c o n1 n2 n3 q => e3.extBut _ _ n3 (e2.extBut _ _ n2 (e1.extBut _ _ n1 q))
    refine wpAny_bind (Src.stop hh (h2.at (h' := g3) fun o => go3 _ _ D.i2z D.i12.symm D.TOi2.symm) (q2.at fun o => go3 _ _ D.l2z D.l2i1 D.l2TO) hy fun g4 e e4 he => ?_)
    have z4 : IsZip g4 z TI TO .ellipsis := e4 _ _ D.i2z.symm (e3.extBut _ _ D.TOz.symm (e2.extBut _ _ D.i1z.symm z1))
    have go4 : ZKeep z TO i1 i2 s.heap g4 := fun c o n1 n2 n3 n4 q => e4 _ _ n4 (go3 c o n1 n3 n2 q)
    obtain ⟨oe, w1, w2, w3⟩ := fin g4 e z4 go4 he
    exact wpAny_setField_rec z4 (by simp) fun g5 _ e5 => hE g5 e (fun c o n1 n2 n3 n4 q => e5.extBut _ _ n1 (go4 c o n1 n2 n3 n4 q)) ⟨oe, e5.extBut _ _ w2 w1, w3⟩
theorem zm_next {x y : Value} {Q : Option Value → Shared → Prop} (D : ZipApart z TI TO i1 i2 l1 l2) (st : ZS c1 c2 s.heap z TI TO i1 i2 l1 l2 k) (q1 : c1.Sq s.heap l1 xs) (q2 : c2.Sq s.heap l2 ys) (hx : xs[k]? = some x) (hy : ys[k]? = some y)
    (hQ : ∀ h', IsZip h' z TI TO (rawInt s.heap.objs.size) → IsPair h' TO x y → c1.It h' i1 l1 (k + 1) → c2.It h' i2 l2 (k + 1) → IsPair h' s.heap.objs.size x y → ZKeep z TO i1 i2 s.heap h' → Q (some (.ref s.heap.objs.size)) { s with heap := h' }) :
    wpAny (model prog w) A (pyNext (.ref z)) Q E s := by
  have hT : s.TypeIs (.ref z) "zip" := ⟨_, st.z, rfl⟩
  unfold pyNext
  exact wpAny_bind (wpAny_attempt (wpAny_callSpecial?_slot (name := Str.ofString "__next__") hT F.slot_zip_next (wpAny_call_entry F.slot_zip_next hT F.entry_zip_next
    (zm_item D st q1 q2 hx hy fun h' a1 a2 a3 a4 a5 a6 => wpAny_pure (hQ h' a1 a2 a3 a4 a5 a6)) (F.args_zip_next_1 _))))
theorem zm_none {Q : Option Value → Shared → Prop} (hh : A.handled = none) (D : ZipApart z TI TO i1 i2 l1 l2) (st : ZS c1 c2 s.heap z TI TO i1 i2 l1 l2 k) (q1 : c1.Sq s.heap l1 xs) (q2 : c2.Sq s.heap l2 ys) (hend : xs[k]? = none ∨ ys[k]? = none)
    (hQ : ∀ h', ZKeep z TO i1 i2 s.heap h' → Q none { s with heap := h' }) : wpAny (model prog w) A (pyNext (.ref z)) Q E s := by
  have hT : s.TypeIs (.ref z) "zip" := ⟨_, st.z, rfl⟩
  unfold pyNext
  refine wpAny_bind (wpAny_attempt (wpAny_callSpecial?_slot (name := Str.ofString "__next__") hT F.slot_zip_next (wpAny_call_entry F.slot_zip_next hT F.entry_zip_next
    (zm_stop hh D st q1 q2 hend fun h' e hk he => ?_) (F.args_zip_next_1 _))))
  obtain ⟨o, ho, hc⟩ := he
  exact wpAny_bind (wpAny_isInstance (T := "StopIteration") (b := true) ⟨o, ho, hc⟩ isSubtype_stop (wpAny_pure (hQ _ hk)))
end
/-- the heap behind zip(..) -/
def zmH1 (c1 : Src) (h : Heap) (l1 : Addr) : Heap := h.push { cls := .type c1.ty, data := .fields #[.ref l1, .int 0 0] }
def zmH2 (c1 c2 : Src) (h : Heap) (l1 l2 : Addr) : Heap := (zmH1 c1 h l1).push { cls := .type c2.ty, data := .fields #[.ref l2, .int 0 0] }
def zmH3 (c1 c2 : Src) (h : Heap) (l1 l2 : Addr) : Heap := (zmH2 c1 c2 h l1 l2).push { cls := .type "tuple", data := .seq #[.ref h.objs.size, .ref (zmH1 c1 h l1).objs.size] }
def zmH4 (c1 c2 : Src) (h : Heap) (l1 l2 : Addr) : Heap := (zmH3 c1 c2 h l1 l2).push { cls := .type "tuple", data := .seq #[.none, .none] }
def zmH5 (c1 c2 : Src) (h : Heap) (l1 l2 : Addr) : Heap := (zmH4 c1 c2 h l1 l2).push { cls := .type "zip", data := .fields #[.none, .bool false, .bool false, .ref (zmH2 c1 c2 h l1 l2).objs.size, .ref (zmH3 c1 c2 h l1 l2).objs.size] }
theorem zm_new (c1 c2 : Src) (l1 l2 : Addr) (xs ys : Array Value) :
    Meets (Builtin.«zip.__new__» ⟨[.type "zip", .ref l1, .ref l2], []⟩) (fun _ R s => c1.Sq s.heap l1 xs ∧ c2.Sq s.heap l2 ys ∧ R (.ok (.ret (.ref (zmH4 c1 c2 s.heap l1 l2).objs.size))) { s with heap := zmH5 c1 c2 s.heap l1 l2 }) :=
  .of_wp fun prog w A R s h => by
    obtain ⟨hp, g, d, tk, os⟩ := s; obtain ⟨hl1, hl2, h⟩ := h
    have hsub := sub_zip
    have hL1 : c1.Sq (Shared.heap ⟨hp, g, d, tk, os⟩) l1 xs := hl1
    have hL2 : c2.Sq (Shared.heap ⟨hp.push { cls := .type c1.ty, data := .fields #[.ref l1, .int 0 0] }, g, d, tk, os⟩) l2 ys := Src.Sq.at hl2 fun o => Heap.get?_push_of_some _
    wp_walk using Src.start hL1, Src.start hL2
    exact ⟨_, rfl, h⟩
/-! the layer's rules -/
section
variable {X : Cx} {pins : List (Addr × Obj)} {σ : L2.St} {H : Hp} {s : Shared} {c c1 c2 : Src} {a b : Addr} {xs ys : List V}
theorem Src.held (I : Inv X pins σ H s) (hq : c.Rd X.K H a xs) : ∃ its : List Value, Vals xs its ∧ c.Sq s.heap a its.toArray := by
  cases c with
  | ls => obtain ⟨its, rv, p, _⟩ := I.list hq; exact ⟨its, rv, p.isList⟩
  | tp => obtain ⟨its, rv, p, _⟩ := I.tuple hq; exact ⟨its, rv, p⟩
theorem Src.inj (I : Inv X pins σ H s) (h : c.Rd X.K H a xs) (h' : c.Rd X.K H a ys) : xs = ys := by
  cases c with
  | ls => exact I.list_inj h h'
  | tp => exact I.tuple_inj h h'
def ItzM (K : PySem.W.Frag) (c1 c2 : Src) (a b : Addr) : L2.It :=
  ⟨fun i H => ∃ (xs ys : List V) (x y : V), c1.Rd K H a xs ∧ c2.Rd K H b ys ∧ xs[i]? = some x ∧ ys[i]? = some y,
    fun i H v H' => ∃ T x y, v = .ref T ∧ H T = none ∧ H' = upd H T (.tup [x, y]) ∧ (∀ xs, c1.Rd K H a xs → xs[i]? = some x) ∧ ∀ ys, c2.Rd K H b ys → ys[i]? = some y,
    fun i H => ∃ xs ys : List V, c1.Rd K H a xs ∧ c2.Rd K H b ys ∧ (xs.length ≤ i ∨ ys.length ≤ i)⟩
theorem turn_zm {P : Program} {w : World} {K : PySem.W.Frag} {elts : List Expr} {kk : Nat} {tpos : Pos} {z TI TO i1 i2 : Addr} (D : ZipApart z TI TO i1 i2 a b) :
    Turn P w K (.Tuple elts kk tpos) (ItzM K c1 c2 a b) [z, TI, TO, i1, i2] z (fun i h => ZS c1 c2 h z TI TO i1 i2 a b i) where
  mem := List.mem_cons_self ..
  obj := fun i h st c hc => by
    obtain ⟨hz, hI, ⟨x, y, hO⟩, h1, h2⟩ := st
    simp only [List.mem_cons, List.not_mem_nil, or_false] at hc
    rcases hc with rfl | rfl | rfl | rfl | rfl
    · exact ⟨_, hz, fun v q => nomatch q⟩
    · exact ⟨_, hI, fun v q => nomatch q⟩
    · exact ⟨_, hO, fun v q => nomatch q⟩
    · exact h1.obj
    · exact h2.obj
  keep := fun i h h' st k => ⟨k _ (by simp) _ st.z, k _ (by simp) _ st.I, let ⟨x, y, q⟩ := st.O; ⟨x, y, k _ (by simp) _ q⟩, st.s1.at fun o q => k _ (by simp) o q, st.s2.at fun o q => k _ (by simp) o q⟩
  item := by
    intro X hP hw hK hc i pins s σ H E I hf st hg
    subst hP hw hK
    obtain ⟨xs, ys, x, y, hqx, hqy, hx, hy⟩ := hg
    obtain ⟨its, rv, p⟩ := Src.held I hqx
    obtain ⟨its2, rv2, p2⟩ := Src.held I hqy
    obtain ⟨u, hu, ru⟩ := rv.get hx
    obtain ⟨u2, hu2, ru2⟩ := rv2.get hy
    refine zm_next D st p p2 (x := u) (y := u2) (by simpa using hu) (by simpa using hu2) fun h' z' O' h1' h2' hT hk => ⟨_, rfl, wpAny_letOwnedTupleGo_zip (s := { s with heap := h' }) z' fun h'' z'' sb => ?_⟩
    have keep2 : ∀ c o, c ∉ [z, TI, TO, i1, i2] → s.heap.get? c = some o → h''.get? c = some o := fun c o hb q => by
      simp only [List.mem_cons, List.not_mem_nil, or_false, not_or] at hb
      exact (sb.2 _ hb.1).trans (hk c o hb.1 hb.2.2.1 hb.2.2.2.1 hb.2.2.2.2 q)
    have new : ObjOk X.prog X.w (upd H s.heap.objs.size (.tup [x, y])) h'' s.heap.objs.size (.tup [x, y]) :=
      ⟨by show 2 ≤ sizeLine; decide, [u, u2], .cons ru (.cons ru2 .nil), ⟨_, (sb.2 _ (Nat.ne_of_gt (Heap.lt_size st.z))).trans hT, rfl, _, rfl⟩⟩
    have I1 : Inv X pins σ (upd H s.heap.objs.size (.tup [x, y])) { s with heap := h'' } := I.turnedNew (t' := s.toks) (ch := [z, TI, TO, i1, i2]) keep2 hf (Nat.le_refl _) new
    refine ⟨.ref s.heap.objs.size, _, I1, rfl, ⟨_, x, y, rfl, I.hok.fresh (Nat.le_refl _), rfl, fun l hl => by rw [Src.inj I hl hqx]; exact hx, fun l hl => by rw [Src.inj I hl hqy]; exact hy⟩,
      ⟨z'', (sb.2 _ D.TIz).trans (hk _ _ D.TIz D.TITO D.TIi1 D.TIi2 st.I), ⟨u, u2, (sb.2 _ D.TOz).trans O'⟩, h1'.at fun o q => (sb.2 _ D.i1z).trans q, h2'.at fun o q => (sb.2 _ D.i2z).trans q⟩, fun c hcm => ?_⟩
    have hlt : c < s.heap.objs.size := by
      simp only [List.mem_cons, List.not_mem_nil, or_false] at hcm
      rcases hcm with rfl | rfl | rfl | rfl | rfl
      · exact Heap.lt_size st.z
      · exact Heap.lt_size st.I
      · obtain ⟨_, _, q⟩ := st.O; exact Heap.lt_size q
      · obtain ⟨_, q, _⟩ := st.s1.obj; exact Heap.lt_size q
      · obtain ⟨_, q, _⟩ := st.s2.obj; exact Heap.lt_size q
    rw [upd_ne (Nat.ne_of_lt hlt)]
    exact (hf c hcm).1
  done := by
    intro X hP hw hK hc i pins s σ H E I hf st hg
    subst hP hw hK
    obtain ⟨xs, ys, hqx, hqy, hend⟩ := hg
    obtain ⟨its, rv, p⟩ := Src.held I hqx
    obtain ⟨its2, rv2, p2⟩ := Src.held I hqy
    have l1 := rv.length
    have l2 := rv2.length
    have he : its.toArray[i]? = none ∨ its2.toArray[i]? = none := by
      rcases hend with q | q
      · exact .inl (by simp; omega)
      · exact .inr (by simp; omega)
    refine zm_none (I.ok.hd hc) D st p p2 he fun h' hk => ⟨rfl, I.turnedL (t' := s.toks) (ch := [z, TI, TO, i1, i2]) (fun c o hb q => ?_) hf⟩
    simp only [List.mem_cons, List.not_mem_nil, or_false, not_or] at hb
    exact hk c o hb.1 hb.2.2.1 hb.2.2.2.1 hb.2.2.2.2 q
  self := fun A i s Q E st h => wpAny_pyIter_zip st.z h
def iZmR (K : PySem.W.Frag) (ta : TA) : TI := fun σ H R => ta σ H fun vs H1 => ∃ (c1 c2 : Src) (a b : Addr) (xs ys : List V), vs = [.ref a, .ref b] ∧ c1.Rd K H1 a xs ∧ c2.Rd K H1 b ys ∧ R (ItzM K c1 c2 a b) H1
theorem pi_zm {e e2 : Expr} {ta : TA} {p pos tpos : Pos} {elts : List Expr} {kk : Nat} (hg : Gl X "zip") (hm : X.mg "zip" = none) (ha : PA X [e, e2] ta)
    (hs : starEach [e, e2] X.env = (false, eval e X.env) :: starEach [e2] X.env := by rfl) (hpl : (backTo pos (starEach [e2] X.env)).any (·.1) = false := by rfl) :
    PI X (.Tuple elts kk tpos) (.Call (.Name "zip" p) [e, e2] [] pos) (iZmR X.K ta) := by
  refine ⟨fun pins s σ H R I h => ?_⟩
  refine Call_ (ld_blt I hg hm PyProof.Rows.boot_zip (PyProof.Rows.callWith_type1 (thn (ha.run pos pins s σ H _ I h) fun us s1 ⟨vs, H1, I1, r1, c1, c2, a, b, xs, ys, ex, hqx, hqy, q⟩ => ?_) hs hpl))
  subst ex
  cases r1 with
  | cons r rr =>
    cases rr with
    | cons r' rr =>
      cases rr
      cases r
      cases r'
      obtain ⟨its, rv, p1⟩ := Src.held I1 hqx
      obtain ⟨its2, rv2, p2⟩ := Src.held I1 hqy
      refine callType_new F.called_zip (by decide) (F.typeCall_zip_2 _ _) (F.newCall_zip_2 _ _) (fun obj => F.args_object_init_3 obj _ _) F.entry_zip_new (zm_new c1 c2 a b its.toArray its2.toArray) ⟨p1, p2, ?_⟩
      obtain ⟨n, hn⟩ : ∃ n, n = s1.heap.objs.size := ⟨_, rfl⟩
      have n1 : (zmH1 c1 s1.heap a).objs.size = n + 1 := by unfold zmH1; rw [Heap.size_push, hn]
      have n2 : (zmH2 c1 c2 s1.heap a b).objs.size = n + 2 := by unfold zmH2; rw [Heap.size_push, n1]
      have n3 : (zmH3 c1 c2 s1.heap a b).objs.size = n + 3 := by unfold zmH3; rw [Heap.size_push, n2]
      have n4 : (zmH4 c1 c2 s1.heap a b).objs.size = n + 4 := by unfold zmH4; rw [Heap.size_push, n3]
      have u1 : ∀ c o, s1.heap.get? c = some o → (zmH1 c1 s1.heap a).get? c = some o := fun c o q => Heap.get?_push_of_some _ q
      have u2 : ∀ c o, (zmH1 c1 s1.heap a).get? c = some o → (zmH2 c1 c2 s1.heap a b).get? c = some o := fun c o q => Heap.get?_push_of_some _ q
      have u3 : ∀ c o, (zmH2 c1 c2 s1.heap a b).get? c = some o → (zmH3 c1 c2 s1.heap a b).get? c = some o := fun c o q => Heap.get?_push_of_some _ q
      have u4 : ∀ c o, (zmH3 c1 c2 s1.heap a b).get? c = some o → (zmH4 c1 c2 s1.heap a b).get? c = some o := fun c o q => Heap.get?_push_of_some _ q
      have u5 : ∀ c o, (zmH4 c1 c2 s1.heap a b).get? c = some o → (zmH5 c1 c2 s1.heap a b).get? c = some o := fun c o q => Heap.get?_push_of_some _ q
      have g1 : (zmH5 c1 c2 s1.heap a b).get? n = some { cls := .type c1.ty, data := .fields #[.ref a, .int 0 0] } := u5 _ _ (u4 _ _ (u3 _ _ (u2 _ _ (by rw [hn]; exact Heap.get?_push_size _ rfl))))
      have g2 : (zmH5 c1 c2 s1.heap a b).get? (n + 1) = some { cls := .type c2.ty, data := .fields #[.ref b, .int 0 0] } := u5 _ _ (u4 _ _ (u3 _ _ (by rw [← n1]; exact Heap.get?_push_size _ rfl)))
      have g3 : IsPair (zmH5 c1 c2 s1.heap a b) (n + 2) (.ref n) (.ref (n + 1)) := u5 _ _ (u4 _ _ (by rw [← n2, ← n1, hn]; exact Heap.get?_push_size _ rfl))
      have g4 : IsPair (zmH5 c1 c2 s1.heap a b) (n + 3) .none .none := u5 _ _ (by rw [← n3]; exact Heap.get?_push_size _ rfl)
      have g5 : IsZip (zmH5 c1 c2 s1.heap a b) (n + 4) (n + 2) (n + 3) .none := by rw [← n4, ← n2, ← n3]; exact Heap.get?_push_size _ rfl
      show _ ∧ _
      rw [n4]
      refine ⟨⟨_, g5, rfl⟩, ?_⟩
      have I2 : Inv X pins σ H1 { s1 with heap := zmH5 c1 c2 s1.heap a b } := I1.kept (t' := s1.toks) fun c o q => u5 _ _ (u4 _ _ (u3 _ _ (u2 _ _ (u1 _ _ q))))
      refine wpAny_pyIter_zip g5 ?_
      subst hn
      refine ⟨s1.heap.objs.size + 4, [s1.heap.objs.size + 4, s1.heap.objs.size + 2, s1.heap.objs.size + 3, s1.heap.objs.size, s1.heap.objs.size + 1], _, _, H1, rfl, I2, turn_zm (PySem.W.ktu_apart s1.heap.objs.size a b p1.lt p2.lt), ⟨g5, g3, ⟨_, _, g4⟩, Src.begin g1, Src.begin g2⟩, fun c hcm => ?_, q⟩
      have hle : s1.heap.objs.size ≤ c := by
        simp only [List.mem_cons, List.not_mem_nil, or_false] at hcm
        rcases hcm with rfl | rfl | rfl | rfl | rfl
        · exact Nat.le_add_right _ _
        · exact Nat.le_add_right _ _
        · exact Nat.le_add_right _ _
        · exact Nat.le_refl _
        · exact Nat.le_add_right _ _
      exact I1.fpOk hle (I1.hok.fresh hle)
end
section
variable {X : Cx} {K : PySem.W.Frag} {a b : Expr} {fs : Af} {pos : Pos}
theorem rd_keep {c : Src} {F H : Hp} {p : Addr} {vs : List V} (h : c.Rd K F p vs) (e : Same F H) : c.Rd K H p vs := by
  cases c with
  | ls => exact e.seq h
  | tp => exact same_q e h
theorem itok_zm {F : Hp} {c1 c2 : Src} {p p' : Addr} {vs vs' : List V} {ds ds' : List PyData} (h : c1.Rd K F p vs) (hv : Paired (Rp K F) ds vs) (h' : c2.Rd K F p' vs') (hv' : Paired (Rp K F) ds' vs') : ItOk K (ItzM K c1 c2 p p') F (zipD ds ds') := fun i F1 m1 H1 S1 ex ok => by
  have hq := rd_keep (rd_keep h ex) ok.ex
  have hq' := rd_keep (rd_keep h' ex) ok.ex
  have l1 := pr_len hv
  have l2 := pr_len hv'
  rw [zipD_len]
  refine ⟨fun hi => ?_, fun hi => ⟨vs, vs', hq, hq', by omega⟩, fun x H2 hlt hy => ?_⟩
  · obtain ⟨x, hx⟩ := get_lt (xs := vs) (i := i) (by omega)
    obtain ⟨y, hy⟩ := get_lt (xs := vs') (i := i) (by omega)
    exact ⟨vs, vs', x, y, hq, hq', hx, hy⟩
  · obtain ⟨T, y, y', rfl, hT, rfl, hy, hy'⟩ := hy
    obtain ⟨d, h1, h2⟩ := pr_get' hv (hy vs hq)
    obtain ⟨d', h1', h2'⟩ := pr_get' hv' (hy' vs' hq')
    obtain ⟨o1, o2⟩ := al_F (o := .tup [y, y']) ok hT
    exact ⟨.tuple [d, d'], _, zipD_get ds ds' i d d' h1 h1', o2, o1, rp_tuple.mpr ⟨T, _, rfl, upd_same, .cons (rp_mono o2.ex _ _ (rp_mono ex _ _ h2)) (.cons (rp_mono o2.ex _ _ (rp_mono ex _ _ h2')) .nil)⟩, fun b o hb => by rw [upd_ne (ne_of_none hb hT)]; exact hb⟩
/-- zip of any two, lists or tuples -/
def zx0 : List Val → Sto → Option (List PyData × Sto)
  | [.d (.list ds), .d (.list es)], S1 => some (zipD ds es, S1)
  | [.d (.tuple ds), .d (.tuple es)], S1 => some (zipD ds es, S1)
  | [.d (.list ds), .d (.tuple es)], S1 => some (zipD ds es, S1)
  | [.d (.tuple ds), .d (.list es)], S1 => some (zipD ds es, S1)
  | _, _ => none
def iZx (fs : Af) : If := fun ρ S => bnd (fs ρ S) zx0
theorem x_iZx {ρ : Rho} {S : Sto} : iZx fs ρ S = bnd (fs ρ S) zx0 := rfl
theorem zx_L {ds es : List PyData} {S : Sto} : zx0 [.d (.list ds), .d (.list es)] S = some (zipD ds es, S) := rfl
theorem zx_T {ds es : List PyData} {S : Sto} : zx0 [.d (.tuple ds), .d (.tuple es)] S = some (zipD ds es, S) := rfl
theorem zx_LT {ds es : List PyData} {S : Sto} : zx0 [.d (.list ds), .d (.tuple es)] S = some (zipD ds es, S) := rfl
theorem zx_TL {ds es : List PyData} {S : Sto} : zx0 [.d (.tuple ds), .d (.list es)] S = some (zipD ds es, S) := rfl
theorem ei_zx {tpos p : Pos} {elts : List Expr} {kk : Nat} (hm : X.mg "zip" = none) (ha : EA X [a, b] fs) (hg : Gl X "zip" := by rfl) (hs : starEach [a, b] X.env = (false, eval a X.env) :: starEach [b] X.env := by rfl) (hpl : (backTo pos (starEach [b] X.env)).any (·.1) = false := by rfl) :
    EI X (.Tuple elts kk tpos) (.Call (.Name "zip" p) [a, b] [] pos) (iZx fs) := ei_of (pi_zm hg hm ha hs hpl) fun F m H S ρ σ ds S' ok ro e R k => by
  obtain ⟨as, S1, q, e⟩ := bnd_inv e
  have main : ∀ (x y : PyData) (xs ys : List PyData) (c1 c2 : Src), as = [.d x, .d y] → (∀ (F : Hp) (v : V), Rp X.K F x v → ∃ p vs, v = .ref p ∧ c1.Rd X.K F p vs ∧ Paired (Rp X.K F) xs vs) → (∀ (F : Hp) (v : V), Rp X.K F y v → ∃ p vs, v = .ref p ∧ c2.Rd X.K F p vs ∧ Paired (Rp X.K F) ys vs) → ds = zipD xs ys → S' = S1 → iZmR X.K (tA X.K fs) σ H R := fun x y xs ys c1 c2 e1 h1 h2 e2 e3 => by
    subst e1 e2 e3
    refine sndA ok ro q _ fun vs F1 m1 H1 st1 ok1 r1 => ?_
    cases r1 with
    | cons r t =>
      cases t with
      | cons r2 t =>
        cases t
        obtain ⟨p, ws, rfl, w1, w2⟩ := h1 _ _ (rv_d.mp r)
        obtain ⟨p', ws', rfl, w1', w2'⟩ := h2 _ _ (rv_d.mp r2)
        exact ⟨c1, c2, p, p', ws, ws', rfl, rd_keep w1 ok1.ex, rd_keep w1' ok1.ex, k _ _ _ _ st1 ok1 (itok_zm w1 w2 w1' w2')⟩
  have hL : ∀ (xs : List PyData) (F : Hp) (v : V), Rp X.K F (.list xs) v → ∃ p vs, v = .ref p ∧ Src.ls.Rd X.K F p vs ∧ Paired (Rp X.K F) xs vs := fun xs F v h => by
    obtain ⟨p, vs, e, h1, h2⟩ := rp_list.mp h
    exact ⟨p, vs, e, .of h1, h2⟩
  have hT : ∀ (xs : List PyData) (F : Hp) (v : V), Rp X.K F (.tuple xs) v → ∃ p vs, v = .ref p ∧ Src.tp.Rd X.K F p vs ∧ Paired (Rp X.K F) xs vs := fun xs F v h => by
    obtain ⟨p, vs, e, h1, h2⟩ := rp_tuple.mp h
    exact ⟨p, vs, e, .of h1, h2⟩
  unfold zx0 at e
  split at e
  · rename_i xs ys
    cases e
    exact main _ _ xs ys .ls .ls rfl (hL xs) (hL ys) rfl rfl
  · rename_i xs ys
    cases e
    exact main _ _ xs ys .tp .tp rfl (hT xs) (hT ys) rfl rfl
  · rename_i xs ys
    cases e
    exact main _ _ xs ys .ls .tp rfl (hL xs) (hT ys) rfl rfl
  · rename_i xs ys
    cases e
    exact main _ _ xs ys .tp .ls rfl (hT xs) (hL ys) rfl rfl
  · cases e
end
end QL

namespace QL
open PySem PySem.Spec PyProof.Rows L2
/-! ### dicts as written: {k: v, ..} -/
section
variable {K : PySem.W.Frag} {F F' H H' : Hp} {m m' : List Addr} {S S' : Sto} {ρ : Rho} {σ : L2.St}
/-- what the store does not know stays as it is -/
theorem stp_off (st : Stp F m H F' m' H') {p : Addr} {o : HO} (hF : F p = none) (hm : p ∉ m) (hH : H p = some o) (ho : ∀ xs, o ≠ .tup xs) : F' p = none ∧ p ∉ m' ∧ H' p = some o := by
  refine ⟨?_, fun hmem => ?_, st.fr p o hH hm⟩
  · cases q : F' p with
    | none => rfl
    | some u =>
      rcases st.newF p hF (by rw [q]; simp) with r | r | ⟨xs, r⟩
      · exact absurd r hm
      · rw [hH] at r; cases r
      · rw [hH] at r
        exact absurd (Option.some.inj r) (ho xs)
  · rcases st.new p hmem with r | r
    · exact hm r
    · rw [hH] at r; cases r
/-- an object that the store does not know comes to it as a live cell -/
theorem al_QC (ok : SOk K F m H S) {p : Addr} {o : HO} {c : Cell} (hp : H p = some o) (hF : F p = none) (hm : p ∉ m) (hv : COk K F H (m ++ [p]) p c) : SOk K F (m ++ [p]) H (S ++ [c]) ∧ RV K F (m ++ [p]) (.c S.length) (.ref p) := by
  refine ⟨⟨ok.ex, by simp [ok.len], ?_, fun a ha => ?_, fun k a c2 h1 h2 => ?_⟩, p, ?_, rfl⟩
  · rw [List.nodup_append]
    refine ⟨ok.nd, by simp, fun a ha b hb => ?_⟩
    rw [List.mem_singleton.mp hb]
    intro e
    exact hm (e ▸ ha)
  · rcases List.mem_append.mp ha with q | q
    · exact ok.tr a q
    · rw [List.mem_singleton.mp q, hp]; simp
  · by_cases hk : k < m.length
    · rw [List.getElem?_append_left hk] at h1
      rw [List.getElem?_append_left (by rw [← ok.len]; exact hk)] at h2
      exact cok_keep (ok.cell k a c2 h1 h2) (Same.refl _) ⟨[p], rfl⟩ (fun q => q) fun vs q => q
    · have ek : k = m.length := by
        have := (List.getElem?_eq_some_iff.mp h1).1
        simp at this
        omega
      subst ek
      rw [List.getElem?_append_right (Nat.le_refl _)] at h1
      simp at h1
      subst h1
      rw [ok.len, List.getElem?_append_right (Nat.le_refl _)] at h2
      simp at h2
      subst h2
      exact hv
  · rw [← ok.len, List.getElem?_append_right (Nat.le_refl _)]; simp
def prQ : List (Ef × Ef) → Rho → Sto → Option (List (Val × Val) × Sto)
  | [] => fun _ S => some ([], S)
  | q :: r => fun ρ S => bnd (q.1 ρ S) fun k S1 => bnd (q.2 ρ S1) fun v S2 => bnd (prQ r ρ S2) fun ps S3 => some ((k, v) :: ps, S3)
def keyP (p : Val × Val) : Option (L2.Key × Val) := match p.1 with
  | .d x => (keyD x).map fun k => (k, p.2)
  | _ => none
def dsp0 (ps : List (Val × Val)) (S : Sto) : Option (Val × Sto) := match mapO keyP ps with
  | some ks => if ks.length ≤ 15 then some (.c S.length, S ++ [.dk (mrgQ [] ks)]) else none
  | none => none
def eDisp (ps : List (Ef × Ef)) : Ef := fun ρ S => bnd (prQ ps ρ S) dsp0
def PR2 (K : PySem.W.Frag) (F : Hp) (m : List Addr) (a : Val × Val) (b : V × V) : Prop := RV K F m a.1 b.1 ∧ RV K F m a.2 b.2
theorem snd_prs : ∀ {ps : List (Ef × Ef)} {F m H S ρ σ kvs S'}, SOk K F m H S → ROk K F m ρ σ → prQ ps ρ S = some (kvs, S') → ∀ Q : List (V × V) → Hp → Prop, (∀ vs F' m' H', Stp F m H F' m' H' → SOk K F' m' H' S' → Paired (PR2 K F' m') kvs vs → Q vs H') →
    tPairs (ps.map fun q => (tE K q.1, tE K q.2)) σ H Q
  | [], F, m, H, S, ρ, σ, kvs, S', ok, ro, e, Q, k => by
    cases e
    exact k _ _ _ _ Stp.refl ok .nil
  | q :: r, F, m, H, S, ρ, σ, kvs, S', ok, ro, e, Q, k => by
    obtain ⟨x, S1, e1, e⟩ := bnd_inv e
    obtain ⟨y, S2, e2, e⟩ := bnd_inv e
    obtain ⟨ps, S3, e3, e⟩ := bnd_inv e
    cases e
    refine sndE ok ro e1 _ fun v F1 m1 H1 st1 ok1 r1 => ?_
    refine sndE ok1 (ro_mono st1 ro) e2 _ fun u F2 m2 H2 st2 ok2 r2 => ?_
    refine snd_prs ok2 (ro_mono (st1.trans st2) ro) e3 _ fun vs F3 m3 H3 st3 ok3 r3 => ?_
    exact k _ _ _ _ ((st1.trans st2).trans st3) ok3 (.cons ⟨rv_mono (st2.trans st3) r1, rv_mono st3 r2⟩ r3)
theorem keyP_ok : ∀ {kvs : List (Val × Val)} {vs : List (V × V)} {ks : List (L2.Key × Val)}, Paired (PR2 K F m) kvs vs → mapO keyP kvs = some ks → ∃ qs : List (L2.Key × V), vs = qs.map (fun kv => (kV kv.1, kv.2)) ∧ Paired (PV K F m) ks qs
  | [], _, ks, .nil, e => by cases e; exact ⟨[], rfl, .nil⟩
  | (a, b) :: kvs, _, ks, .cons (b := (u, v)) r t, e => by
    have e' : ((keyP (a, b)).bind fun q => (mapO keyP kvs).map (q :: ·)) = some ks := e
    cases e1 : keyP (a, b) with
    | none => rw [e1] at e'; cases e'
    | some q =>
      cases e2 : mapO keyP kvs with
      | none => rw [e1, e2] at e'; cases e'
      | some qs =>
        rw [e1, e2] at e'
        cases e'
        obtain ⟨zs, rfl, h2⟩ := keyP_ok t e2
        unfold keyP at e1
        cases a with
        | d x =>
          cases e3 : keyD x with
          | none => simp only [e3] at e1; cases e1
          | some kk =>
            simp only [e3] at e1
            cases e1
            have := rp_key (F := F) (rv_d.mp r.1) e3
            simp only at this
            subst this
            exact ⟨(kk, v) :: zs, rfl, .cons ⟨rfl, r.2⟩ h2⟩
        | c _ => cases e1
        | s _ => cases e1
        | t _ => cases e1
def EPs (X : Cx) (pos : Pos) (keys : List (Option Expr)) (values : List Expr) (ps : List (Ef × Ef)) : Prop := PPs X pos keys values (ps.map fun q => (tE X.K q.1, tE X.K q.2))
theorem eps_nil {X : Cx} {pos : Pos} : EPs X pos [] [] [] := pps_nil
theorem eps_cons {X : Cx} {pos : Pos} {k v : Expr} {ks : List (Option Expr)} {vs : List Expr} {fk fv : Ef} {ps : List (Ef × Ef)} (hk : EE X k fk) (hv : EE X v fv) (hr : EPs X pos ks vs ps) : EPs X pos (some k :: ks) (v :: vs) ((fk, fv) :: ps) := pps_cons hk hv hr
theorem ee_disp {X : Cx} {pos : Pos} {keys : List (Option Expr)} {values : List Expr} {ps : List (Ef × Ef)} (h : EPs X pos keys values ps) (hall : keys.all (·.isSome) = true := by rfl) (hl : keys.length = values.length := by rfl) (h0 : keys ≠ [] := by intro z; cases z) (h15 : keys.length ≤ 15 := by decide) :
    EE X (.Dict keys values pos) (eDisp ps) := ee_of (pe_disp h hall hl h0 h15) fun F m H S ρ σ res S' ok ro e Q k => by
  obtain ⟨kvs, S1, e1, e⟩ := bnd_inv e
  unfold dsp0 at e
  split at e
  · rename_i ks hks
    split at e
    · rename_i hln
      cases e
      intro p hp
      obtain ⟨hF, hm⟩ := ok.none hp
      have ok0 := al_O (o := .dK []) ok hF hm
      have st0 := al_X (o := .dK []) ok hp
      refine snd_prs ok0 (ro_mono st0 ro) e1 _ fun vs F1 m1 H1 st1 ok1 r1 => ?_
      obtain ⟨q1, q2, q3⟩ := stp_off st1 hF hm upd_same (fun xs z => nomatch z)
      obtain ⟨qs, rfl, hp2⟩ := keyP_ok r1 hks
      refine ⟨q3, qs, rfl, by rw [← pr_len hp2]; exact hln, ?_⟩
      have ok2 := al_O (o := .dK (mergeK [] qs)) ok1 q1 q2
      have ex : ∀ (x : Val) (v : V), RV X.K F1 m1 x v → RV X.K F1 (m1 ++ [p]) x v := fun x v r => rv_keep (Same.refl _) ⟨[p], rfl⟩ r
      obtain ⟨ok3, r3⟩ := al_QC ok2 upd_same q1 q2 (c := .dk (mrgQ [] ks)) ⟨q1, _, upd_same, pr_mono (fun x v r => ⟨r.1, ex _ _ r.2⟩) (mrgQ_ok hp2 .nil)⟩
      have stt := st0.trans st1
      refine k _ F1 (m1 ++ [p]) _ ⟨stt.ex, ?_, fun a ha => ?_, stt.newF, fun a o ha hma => ?_⟩ ok3 r3
      · obtain ⟨t, rfl⟩ := stt.pre
        exact ⟨t ++ [p], by simp⟩
      · rcases List.mem_append.mp ha with z | z
        · exact stt.new a z
        · rw [List.mem_singleton.mp z]; exact .inr hp
      · rw [upd_ne (ne_of_none ha hp)]
        exact stt.fr a o ha hma
    · cases e
  · cases e
theorem w_prN : prQ [] ρ S = some ([], S) := rfl
theorem w_prC {q : Ef × Ef} {r : List (Ef × Ef)} : prQ (q :: r) ρ S = bnd (q.1 ρ S) fun k S1 => bnd (q.2 ρ S1) fun v S2 => bnd (prQ r ρ S2) fun ps S3 => some ((k, v) :: ps, S3) := rfl
theorem x_disp {ps : List (Ef × Ef)} : eDisp ps ρ S = bnd (prQ ps ρ S) dsp0 := rfl
theorem dsp_eq {ps : List (Val × Val)} {ks : List (L2.Key × Val)} (h : mapO keyP ps = some ks) (hl : ks.length ≤ 15) : dsp0 ps S = some (.c S.length, S ++ [.dk (mrgQ [] ks)]) := by
  unfold dsp0
  rw [h]
  simp only [if_pos hl]
end
section
variable {X : Cx} {a b c : Expr} {pos : Pos} {fs : Af}
/-- a, b, c = x, y, z -/
def sPar3 (i j l : Nat) (fs : Af) : Sf := fun ρ S => match fs ρ S with
  | some ([a, b, c], S1) => some (.nx, ((ρ.set i (some a)).set j (some b)).set l (some c), S1)
  | _ => none
theorem ss_par3 (i j l : Nat) {x y z : Str} {px py pz pt pt2 : Pos} {kt k2 : Nat} (hN : X.N.Nodup) (ha : EA X [a, b, c] fs) (hc : X.calm = true := by rfl) (hi : X.N[i]? = some x := by rfl) (hj : X.N[j]? = some y := by rfl) (hl : X.N[l]? = some z := by rfl) (hij : i ≠ j := by decide) (hil : i ≠ l := by decide) (hjl : j ≠ l := by decide)
    (hx : X.env.scope.names.lookup x = some .local := by rfl) (hy : X.env.scope.names.lookup y = some .local := by rfl) (hz : X.env.scope.names.lookup z = some .local := by rfl)
    (hw : swappedStores [.Tuple [.Name x px, .Name y py, .Name z pz] kt pt] (.Tuple [a, b, c] k2 pt2) X.env = pure (some [x, y, z]) := by rfl)
    (hs : swapsWithSole [.Tuple [.Name x px, .Name y py, .Name z pz] kt pt] (.Tuple [a, b, c] k2 pt2) pos.line X.env = pure false := by rfl) :
    SS X (.Assign [.Tuple [.Name x px, .Name y py, .Name z pz] kt pt] (.Tuple [a, b, c] k2 pt2) pos) (sPar3 i j l fs) := ss_of (ps_par3 hc hN hi hj hl hij hil hjl hx hy hz ha hw hs) fun F m H S ρ σ fl ρ' S' ok ro e D k => by
  unfold sPar3 at e
  split at e
  · rename_i p q r S1 h1
    cases e
    refine sndA ok ro h1 _ fun vs F1 m1 H1 st1 ok1 r1 => ?_
    cases r1 with
    | cons ra t =>
      cases t with
      | cons rb t =>
        cases t with
        | cons rc t =>
          cases t
          exact ⟨_, _, _, rfl, k _ _ _ _ st1 ok1 ((((ro_mono st1 ro).set ra i).set rb j).set rc l)⟩
  · cases e
def kPar3 (i j l : Nat) (ρ : Rho) (Q : Fl → Rho → Sto → Prop) : List Val → Sto → Prop
  | [a, b, c], S => Q .nx (((ρ.set i (some a)).set j (some b)).set l (some c)) S
  | _, _ => False
theorem kPar3_eq {i j l : Nat} {ρ : Rho} {S : Sto} {Q : Fl → Rho → Sto → Prop} {a b c : Val} : kPar3 i j l ρ Q [a, b, c] S = Q .nx (((ρ.set i (some a)).set j (some b)).set l (some c)) S := rfl
theorem x_par3 {i j l : Nat} {af : Af} {ρ : Rho} {S : Sto} {Q : Fl → Rho → Sto → Prop} : QL.wpS (sPar3 i j l af ρ S) Q ↔ wp (af ρ S) (kPar3 i j l ρ Q) := by
  unfold sPar3
  constructor
  · rintro ⟨fl, ρ', S', e, q⟩
    split at e
    · rename_i a b c S1 h
      cases e
      exact ⟨_, _, h, q⟩
    · cases e
  · rintro ⟨as, S1, h, q⟩
    match as, q, h with
    | [a, b, c], q, h => exact ⟨_, _, _, by simp only [h], q⟩
end
end QL

namespace QL
open PySem PySem.Spec PyProof.Rows L2
/-! ### zip of a tuple and a list that may change -/
section
variable {X : Cx} {K : PySem.W.Frag} {F H F' H' : Hp} {m m' : List Addr} {a b : Expr} {fs : Af} {pos : Pos}
def dZq (ds : List PyData) (b : Val) : Dy := fun S i => match viewQ S b with
  | some ys => match (ds.map Val.d)[i]?, ys[i]? with
    | some x, some y => some (some (mkP x y))
    | none, _ => some none
    | some _, none => some none
  | none => none
theorem itdy_zq {p p' : Addr} {vs : List V} {ds : List PyData} {b : Val} (h : SqT K F p vs) (hv : Paired (Rp K F) ds vs) (ht : isTu b = false) (r : RV K F m b (.ref p')) : ItDy K (ItzM K .tp .ls p p') m F (dZq ds b) := fun i F1 m1 H1 S1 ex pre ok => by
  have h1 : SqT K H1 p vs := same_q ok.ex (same_q ex h)
  have h2 : Paired (RV K F1 m1) (ds.map Val.d) vs := rp_rvs (pr_mono (fun x v => rp_mono ex x v) hv)
  have r2 := rvM ex pre r
  refine ⟨fun x hx => ?_, fun hx => ?_⟩
  · unfold dZq at hx
    split at hx
    · rename_i ys hv'
      split at hx
      · rename_i d d' hd hd'
        cases hx
        obtain ⟨ws', h1', h2'⟩ := view_at ht ok r2 hv'
        obtain ⟨w, hw, rw'⟩ := pr_get h2 hd
        obtain ⟨w', hw', rw''⟩ := pr_get h2' hd'
        refine ⟨⟨vs, ws', w, w', h1, h1', hw, hw'⟩, fun v H2 hy => ?_⟩
        obtain ⟨T, y, y', rfl, hT, rfl, hy, hy'⟩ := hy
        have q1 := hy vs h1
        have q2 := hy' ws' h1'
        rw [hw] at q1
        rw [hw'] at q2
        cases q1
        cases q2
        obtain ⟨o1, o2⟩ := al_F (o := .tup [w, w']) ok hT
        exact ⟨_, o2, o1, rv_mkP (rv_mono o2 rw') (rv_mono o2 rw'') upd_same, fun b o hb => by rw [upd_ne (ne_of_none hb hT)]; exact hb⟩
      · cases hx
      · cases hx
    · cases hx
  · unfold dZq at hx
    split at hx
    · rename_i ys hv'
      obtain ⟨ws', h1', h2'⟩ := view_at ht ok r2 hv'
      split at hx
      · cases hx
      · rename_i hd
        exact ⟨vs, ws', h1, h1', .inl (by rw [← pr_len h2]; exact List.getElem?_eq_none_iff.mp hd)⟩
      · rename_i hd
        exact ⟨vs, ws', h1, h1', .inr (by rw [← pr_len h2']; exact List.getElem?_eq_none_iff.mp hd)⟩
    · cases hx
def jm0 : List Val → Sto → Option (Dy × Sto)
  | [.d (.tuple ds), .c k], S => if (viewQ S (.c k)).isSome then some (dZq ds (.c k), S) else none
  | _, _ => none
def jZm (fs : Af) : Jf := fun ρ S => bnd (fs ρ S) jm0
theorem x_jZm {ρ : Rho} {S : Sto} : jZm fs ρ S = bnd (fs ρ S) jm0 := rfl
theorem jm_eq {ds : List PyData} {k : Nat} {S : Sto} {ys : List Val} (h : viewQ S (.c k) = some ys) : jm0 [.d (.tuple ds), .c k] S = some (dZq ds (.c k), S) := by
  unfold jm0
  simp only [h]
  rfl
theorem dZq_eq {ds : List PyData} {k i : Nat} {S : Sto} {ys : List Val} (h : viewQ S (.c k) = some ys) : dZq ds (.c k) S i = some (List.zipWith mkP (ds.map Val.d) ys)[i]? := by
  unfold dZq
  rw [h, List.getElem?_zipWith]
  simp only
  cases (ds.map Val.d)[i]? <;> cases ys[i]? <;> rfl
theorem ej_zm {tpos p : Pos} {elts : List Expr} {kk : Nat} (hm : X.mg "zip" = none) (ha : EA X [a, b] fs) (hg : Gl X "zip" := by rfl) (hs : starEach [a, b] X.env = (false, eval a X.env) :: starEach [b] X.env := by rfl) (hpl : (backTo pos (starEach [b] X.env)).any (·.1) = false := by rfl) :
    EJ X (.Tuple elts kk tpos) (.Call (.Name "zip" p) [a, b] [] pos) (jZm fs) := ej_of (pi_zm hg hm ha hs hpl) fun F m H S ρ σ dy S' ok ro e R k => by
  obtain ⟨as, S1, q, e⟩ := bnd_inv e
  unfold jm0 at e
  split at e
  · split at e
    · rename_i hz
      cases e
      refine sndA ok ro q _ fun vs F1 m1 H1 st1 ok1 r1 => ?_
      cases r1 with
      | cons r t =>
        cases t with
        | cons r2 t =>
          cases t
          obtain ⟨us, hu⟩ := Option.isSome_iff_exists.mp hz
          obtain ⟨p, ws, rfl, h1, h2⟩ := rv_tuple.mp r
          rw [viewQ_L rfl] at hu
          obtain ⟨p', ws', rfl, h1', h2'⟩ := viewL_ok ok1 hu r2
          exact ⟨.tp, .ls, p, p', ws, ws', rfl, same_t ok1.ex h1, h1', k _ _ _ _ st1 ok1 (itdy_zq (.of h1) h2 rfl r2)⟩
    · cases e
  · cases e
end
end QL

namespace QL
open PySem PySem.Spec PyProof.Rows L2
/-! ### a tuple times 0 or 1 -/
theorem tuple_mul0W (l : Addr) (items : Array Value) (n : Nat) (dd : Option Addr) (sl : Array (Option Value)) (x : Int) (u : Tok) (c0 : (decide (x < -(2 ^ 63)) || decide (x ≥ 2 ^ 63)) = false) (c1 : (items.isEmpty || x == 1) = false) (c2 : (decide (x ≤ 0) || items.isEmpty) = true) :
    Meets (Builtin.«tuple.__mul__» ⟨[.ref l, .int x u], []⟩) (fun _ R s => s.heap.get? l = some { cls := .type "tuple", dict := dd, data := .seq items n, slots := sl } ∧
      R (.ok (.ret (Value.ref s.heap.objs.size))) { s with heap := s.heap.push { cls := Value.type "tuple", data := Data.seq #[] }, toks := s.toks }) :=
  .of_wp fun prog w A R s h => by
    obtain ⟨hp, g, d, tk, os⟩ := s
    obtain ⟨hl, h⟩ := h
    have f1 := AutoSeq1.idx_int
    wp_walk using wpAny_loadPart' hl
    repeat (first
      | (refine wpAny_ite_false (decide_eq_false (by rw [c0]; exact Bool.false_ne_true)) ?_; wp_walk using wpAny_loadPart' hl)
      | (refine wpAny_ite_false (decide_eq_false (by rw [c1]; exact Bool.false_ne_true)) ?_; wp_walk using wpAny_loadPart' hl)
      | (refine wpAny_ite_true (decide_eq_true (by rw [c2])) ?_; wp_walk using wpAny_loadPart' hl))
    exact ⟨_, rfl, h⟩
theorem tuple_mul1W (l : Addr) (items : Array Value) (n : Nat) (dd : Option Addr) (sl : Array (Option Value)) (x : Int) (u : Tok) (c0 : (decide (x < -(2 ^ 63)) || decide (x ≥ 2 ^ 63)) = false) (c1 : (items.isEmpty || x == 1) = true) :
    Meets (Builtin.«tuple.__mul__» ⟨[.ref l, .int x u], []⟩) (fun _ R s => s.heap.get? l = some { cls := .type "tuple", dict := dd, data := .seq items n, slots := sl } ∧
      R (.ok (.ret (Value.ref l))) s) :=
  .of_wp fun prog w A R s h => by
    obtain ⟨hp, g, d, tk, os⟩ := s
    obtain ⟨hl, h⟩ := h
    have f1 := AutoSeq1.idx_int
    wp_walk using wpAny_loadPart' hl
    repeat (first
      | (refine wpAny_ite_false (decide_eq_false (by rw [c0]; exact Bool.false_ne_true)) ?_; wp_walk using wpAny_loadPart' hl)
      | (refine wpAny_ite_true (decide_eq_true (by rw [c1])) ?_; wp_walk using wpAny_loadPart' hl))
    exact ⟨_, rfl, h⟩
def rRep01 (K : PySem.W.Frag) : R2 := fun x y H Q => ∃ l k xs, x = .ref l ∧ y = .int k ∧ SqT K H l xs ∧ xs ≠ [] ∧ ((k = 1 ∧ Q (.ref l) H) ∨ (k = 0 ∧ ∀ p, H p = none → Q (.ref p) (upd H p (.tup []))))
section
variable {X : Cx}
theorem op_rep01 : OpR X (binaryOp .Mult) (rRep01 X.K) := by
  intro pins s σ H x y v u Q I rx ry h
  obtain ⟨l, k, xs, rfl, rfl, hT, hne, hq⟩ := h
  cases rx
  obtain ⟨t, rfl⟩ := ry
  obtain ⟨its, r, ⟨⟨cls, dd, data, sl⟩, ho, hc, n, hd⟩, hs⟩ := I.tuple hT
  simp only at hc hd
  subst hc hd
  have hle : its.length = xs.length := r.length.symm
  have hn : its ≠ [] := fun e => hne (by
    rw [e] at hle
    exact List.eq_nil_of_length_eq_zero hle.symm)
  have hi : its.toArray.isEmpty = false := by
    cases its with
    | nil => exact absurd rfl hn
    | cons a b => rfl
  rcases hq with ⟨rfl, q⟩ | ⟨rfl, q⟩
  · have c0 : (decide ((1 : Int) < -(2 ^ 63)) || decide ((1 : Int) ≥ 2 ^ 63)) = false := by decide
    have c1 : (its.toArray.isEmpty || (1 : Int) == 1) = true := by rw [hi]; rfl
    refine wpAny_binaryOp_repeat_ref (T := "tuple") (U := "int") (by decide) ⟨_, ho, rfl⟩ (fun s' => typeIs_int s' 1 t) noFill_tuple_mul F.fills_int_mul F.slot_int_rmul repeat_tuple F.slot_int_index.lookup
      (call_meets F.slot_int_rmul (typeIs_int s 1 t) F.entry_int_rmul (F.args_int_rmul_2 _ _) (int_rmul_tuple 1 t l its.toArray n dd sl)
        ⟨ho, rfl, ⟨_, ho, rfl⟩, call_meets F.slot_tuple_mul ⟨_, ho, rfl⟩ F.entry_tuple_mul (F.args_tuple_mul_2 _ _) (tuple_mul1W l its.toArray n dd sl 1 t c0 c1) ⟨ho, ?_⟩⟩)
    exact ⟨.ref l, _, I, rfl, q⟩
  · have c0 : (decide ((0 : Int) < -(2 ^ 63)) || decide ((0 : Int) ≥ 2 ^ 63)) = false := by decide
    have c1 : (its.toArray.isEmpty || (0 : Int) == 1) = false := by rw [hi]; rfl
    have c2 : (decide ((0 : Int) ≤ 0) || its.toArray.isEmpty) = true := by rw [hi]; rfl
    refine wpAny_binaryOp_repeat_ref (T := "tuple") (U := "int") (by decide) ⟨_, ho, rfl⟩ (fun s' => typeIs_int s' 0 t) noFill_tuple_mul F.fills_int_mul F.slot_int_rmul repeat_tuple F.slot_int_index.lookup
      (call_meets F.slot_int_rmul (typeIs_int s 0 t) F.entry_int_rmul (F.args_int_rmul_2 _ _) (int_rmul_tuple 0 t l its.toArray n dd sl)
        ⟨ho, rfl, ⟨_, ho, rfl⟩, call_meets F.slot_tuple_mul ⟨_, ho, rfl⟩ F.entry_tuple_mul (F.args_tuple_mul_2 _ _) (tuple_mul0W l its.toArray n dd sl 0 t c0 c1 c2) ⟨ho, ?_⟩⟩)
    refine ⟨.ref s.heap.objs.size, _, I.laid (t' := s.toks) (o := .tup []) (fun b ob q => Heap.get?_push_of_some _ q) (Nat.le_refl _) ?_, rfl, q _ (I.hok.fresh (Nat.le_refl _))⟩
    exact ⟨by rw [sizeLine_eq]; decide, [], .nil, IsTup.new _ _⟩
/-- a tuple times an int -/
def gRepA : Val → Val → Sto → Option (Val × Sto)
  | .d (.tuple ds), .d (.int k), S => if ds = [] then none else if k = 1 then some (.d (.tuple ds), S) else if k = 0 then some (.d (.tuple []), S) else none
  | _, _, _ => none
theorem og_repA : OpG X (binaryOp .Mult) gRepA := ⟨_, op_rep01, fun F m H S a b v u res S' ok ra rb e Q k => by
  unfold gRepA at e
  split at e
  · rename_i ds j
    obtain ⟨p, vs, rfl, h1, h2⟩ := rv_tuple.mp ra
    cases rv_int.mp rb
    have hl := pr_len h2
    split at e
    · cases e
    · rename_i hne
      have hv : vs ≠ [] := fun z => hne (by rw [z] at hl; exact List.eq_nil_of_length_eq_zero hl)
      split at e
      · rename_i hj
        cases e
        exact ⟨p, j, vs, rfl, rfl, same_t ok.ex h1, hv, .inl ⟨hj, k.here ok ra⟩⟩
      · split at e
        · rename_i hj
          cases e
          refine ⟨p, j, vs, rfl, rfl, same_t ok.ex h1, hv, .inr ⟨hj, fun q hq => ?_⟩⟩
          obtain ⟨h1, h2⟩ := al_F (o := .tup []) ok hq
          exact k _ _ _ _ h2 h1 (rv_tuple.mpr ⟨q, _, rfl, upd_same, .nil⟩)
        · cases e
  · cases e⟩
def gMulT (md : Md) := alt2 (gMul md) gRepA
theorem og_mulT (md : Md) : OpG X (binaryOp .Mult) (gMulT md) := (og_mul md).or og_repA
theorem mulT_eq {md : Md} {ds : List PyData} {k : Int} {S : Sto} (hne : ds ≠ []) (hk : k = 0 ∨ k = 1) : gMulT md (.d (.tuple ds)) (.d (.int k)) S = some (.d (.tuple (if k = 1 then ds else [])), S) := by
  have h0 : gMul md (.d (.tuple ds)) (.d (.int k)) S = none := by
    unfold gMul alt2
    have h1 : gMulI (.d (.tuple ds)) (.d (.int k)) S = none := by unfold gMulI gI; rfl
    rw [h1]
    unfold gRep
    rfl
  unfold gMulT
  rw [alt2, h0]
  simp only
  show (if ds = [] then none else if k = 1 then some (Val.d (.tuple ds), S) else if k = 0 then some (.d (.tuple []), S) else none) = _
  rw [if_neg hne]
  rcases hk with rfl | rfl
  · rw [if_neg (by decide), if_pos rfl, if_neg (by decide)]
  · rw [if_pos rfl, if_pos rfl]
end
end QL

namespace QL
open PySem PySem.Spec PyProof.Rows L2
/-! ### xs.pop(i) -/
section
variable {K : W.Frag} {X : Cx} {a e : Expr} {pos : Pos} {fa : Ef} {fs : Af}
def gPopA : Val → List Val → Sto → Option (Val × Sto)
  | .c k, [.d (.int i)], S => match S[k]? with
    | some (.lst xs) => if 0 ≤ i ∧ i < 2 ^ 63 ∧ i < xs.length then match xs[i.toNat]? with
      | some y => some (y, S.set k (.lst (xs.eraseIdx i.toNat)))
      | none => none
      else none
    | _ => none
  | _, _, _ => none
theorem rm_popA : RM K rPopAt gPopA := fun F m H S a as v vs res S' ok ra rs e Q k => by
  unfold gPopA at e
  split at e
  · rename_i kk i
    split at e
    · rename_i xs h1
      split at e
      · rename_i hz
        split at e
        · rename_i y hy
          cases e
          obtain ⟨p, hm, rfl⟩ := ra
          obtain ⟨hF, ws, h3, h4⟩ := ok.cell _ _ _ hm h1
          cases rs with
          | cons r1 t =>
            cases t
            cases rv_int.mp r1
            obtain ⟨u, hu, ru⟩ := pr_get h4 hy
            obtain ⟨ok2, st2⟩ := al_M ok hm h1 (pr_erase i.toNat h4)
            have hsi : seqIndex? i ws.length = some i.toNat := by
              unfold seqIndex?
              have hlt : i < (ws.length : Int) := by rw [← pr_len h4]; exact hz.2.2
              simp only [if_neg (show ¬ i < 0 by omega)]
              rw [if_pos (by simp only [Bool.and_eq_true, decide_eq_true_eq]; exact ⟨hz.1, hlt⟩)]
            have h63 : -(2 ^ 63) ≤ i := Int.le_trans (by decide) hz.1
            exact ⟨p, ws, i, i.toNat, u, rfl, rfl, h3, h63, hz.2.1, hsi, hu, k _ _ _ _ st2 ok2 ru⟩
        · cases e
      · cases e
    · cases e
  · cases e
theorem ee_popA {apos : Pos} (ho : EE X a fa) (ha : EA X [e] fs)
    (hbase : attributeBase a "pop" X.env (eval a X.env) = eval a X.env := by rfl)
    (hfew : ((backTo pos (starEach [e] X.env)).all (fun x => !x.1) && (backToKw pos (keywordEach [] X.env)).all (fun x => x.1.isSome)
      && decide ([e].length + ([] : List Keyword).length + (if ([] : List Keyword).isEmpty then 0 else 1) < 30)) = true := by rfl)
    (hline : (apos.endLine == pos.line) = true := by rfl) (hs : starEach [e] X.env = (false, eval e X.env) :: starEach [] X.env := by rfl) (hplain : (backTo pos (starEach [] X.env)).any (·.1) = false := by rfl) :
    EE X (.Call (.Attribute a "pop" apos) [e] [] pos) (eMt gPopA fa fs) := ee_mt PySem.F.slot_list_pop PySem.F.type_list_pop mt_popAt rm_popA ho ha hbase hfew hline hs hplain
theorem popA_eq {k : Nat} {i : Int} {xs : List Val} {y : Val} {S : Sto} (h : S[k]? = some (.lst xs)) (h0 : 0 ≤ i) (h1 : i < 2 ^ 62) (hy : xs[i.toNat]? = some y) : gPopA (.c k) [.d (.int i)] S = some (y, S.set k (.lst (xs.eraseIdx i.toNat))) := by
  have hl := (List.getElem?_eq_some_iff.mp hy).1
  have h63 : i < 2 ^ 63 := Int.lt_trans h1 (by decide)
  unfold gPopA
  simp only [h]
  rw [if_pos ⟨h0, h63, by omega⟩, hy]
end
end QL

namespace QL
open PySem PySem.Spec PyProof.Rows L2
/-! ### min of a list of data -/
section
variable {X : Cx} {K : PySem.W.Frag}
def MinOk (ds : List PyData) : Prop := PySem.W.AllAlike ds ∧ (∀ d ∈ ds, d ≠ .none) ∧ (∀ d ∈ ds, d.depth ≤ 60)
def rMinG (K : PySem.W.Frag) : List V → Hp → VK → Prop := fun vs H Q => ∃ (F : Hp) (a : Addr) (x : PyData) (ds : List PyData) (ws : List V), Same F H ∧ vs = [V.ref a] ∧ SqL K H a ws ∧ Paired (Rp K F) (x :: ds) ws ∧ MinOk (x :: ds) ∧
  ∀ u : V, Rp K F (PySem.W.minD x ds) u → Q u H
theorem each_at {R : Value → PyData → Prop} : ∀ {vs : List Value} {bs : List PyData}, PySem.W.EachIs R vs bs → ∀ {i : Nat} {v : Value}, vs[i]? = some v → i < bs.length ∧ R v (bs.getD i .none) ∧ bs.getD i .none ∈ bs
  | _, _, .nil, _, _, h => by simp at h
  | _, _, .cons r t, 0, v, h => by
    obtain rfl := Option.some.inj (show some _ = some v from h)
    exact ⟨Nat.zero_lt_succ _, r, List.mem_cons_self⟩
  | _, _, .cons r t, i + 1, v, h => by
    obtain ⟨h1, h2, h3⟩ := each_at t (i := i) (v := v) (by simpa using h)
    exact ⟨Nat.succ_lt_succ h1, by simpa using h2, by simpa using List.mem_cons_of_mem _ h3⟩
theorem cr_minG (hc : X.calm = true) (hu : X.A.units + 63 < cLine) : CallR X (.builtin "min") (rMinG X.K) := by
  intro pins s σ H vs us Q I r h
  obtain ⟨F, a, x, ds, ws, hF, rfl, hs, hp, ⟨h1, h2, h3⟩, q⟩ := h
  rw [Vals.ref1 r]
  obtain ⟨its, rv, hl, hz⟩ := I.list hs
  have he := each_of hp rv
  have hn : its.toArray.size = ds.length + 1 := by
    rw [List.size_toArray, he.length]
    rfl
  refine call_min_walkH (PySem.W.iter_listW (A := X.A.in1) (I.ok.hd hc) hl.isList fun s₂ e W st hfp hw hk => ?_)
  refine ⟨_, _, _, _, _, _, _, s.heap, (fun i j => PySem.W.dataLt ((x :: ds).getD i .none) ((x :: ds).getD j .none)), rfl, W, st, hfp, by omega, hw, hk, fun i j vi vj s' Q' E' hk' hi hj hq => ?_, fun v s' hP m => ?_⟩
  · obtain ⟨l1, ⟨u1, a1, b1⟩, m1⟩ := each_at he (i := i) (v := vi) (by simpa using hi)
    obtain ⟨l2, ⟨u2, a2, b2⟩, m2⟩ := each_at he (i := j) (v := vj) (by simpa using hj)
    obtain ⟨as1, r1⟩ := Dp.reads I _ u1 vi (rp_dp _ u1 (rp_mono hF _ u1 b1)) a1
    obtain ⟨as2, r2⟩ := Dp.reads I _ u2 vj (rp_dp _ u2 (rp_mono hF _ u2 b2)) a2
    refine PySem.W.rcLt_alike _ _ X.A.in1 s' vi vj _ _ (PySem.W.reads_keeps hk' r1) (PySem.W.reads_keeps hk' r2) (h1 _ m1 _ m2) (h2 _ m1) ?_ _ _ E' Q' hq
    have e1 := Nat.min_le_left ((x :: ds).getD i .none).depth ((x :: ds).getD j .none).depth
    have e2 := h3 _ m1
    have e3 : X.A.in1.units = X.A.units + 1 := rfl
    omega
  · obtain ⟨h', tk, rfl, hk'⟩ := PySem.W.moved_old e rfl m
    obtain ⟨l1, ⟨u1, a1, b1⟩, m1⟩ := each_at he (i := argBest (fun i j => PySem.W.dataLt ((x :: ds).getD i .none) ((x :: ds).getD j .none)) (its.toArray.size - 1)) (v := v) (by rw [← List.getElem?_toArray]; exact hP)
    have e1 : its.toArray.size - 1 = ds.length := by omega
    have e2 := (PySem.W.argBest_fold PySem.W.dataLt PyData.none x ds ds.length (Nat.le_refl _)).2
    rw [List.take_length] at e2
    rw [e1] at b1
    exact ⟨u1, H, I.kept hk', a1, q u1 (by unfold PySem.W.minD; rw [← e2]; exact b1)⟩
open Classical in
noncomputable def gMinL : List Val → Sto → Option (Val × Sto)
  | [a], S => match (viewS S a).bind unD with
    | some (x :: ds) => if MinOk (x :: ds) then some (.d (PySem.W.minD x ds), S) else none
    | _ => none
  | _, _ => none
theorem cg_minL (hu : X.A.units + 63 < cLine) (hc : X.calm = true := by rfl) : CallG X (.builtin "min") gMinL := ⟨_, cr_minG hc hu, fun F m H S as vs res S' ok rs e Q k => by
  unfold gMinL at e
  split at e
  · rename_i a
    split at e
    · rename_i x ds hd
      split at e
      · rename_i hz
        cases e
        cases rs with
        | cons r1 t =>
          cases t
          cases e2 : viewS S a with
          | none => rw [e2] at hd; cases hd
          | some xs =>
            rw [e2] at hd
            obtain ⟨p, ws, rfl, h1, h2⟩ := viewS_ok ok e2 r1
            exact ⟨F, p, x, ds, ws, ok.ex, rfl, .of h1, unD_ok hd h2, hz, fun u hu => k _ _ _ _ (Stp.refl) ok hu⟩
      · cases e
    · cases e
  · cases e⟩
theorem minL_eq {S : Sto} {a : Val} {xs : List Val} {x : PyData} {ds : List PyData} (h : viewS S a = some xs) (hx : unD xs = some (x :: ds)) (ok : MinOk (x :: ds)) : gMinL [a] S = some (.d (PySem.W.minD x ds), S) := by
  unfold gMinL
  have e : (viewS S a).bind unD = some (x :: ds) := by rw [h]; exact hx
  dsimp only
  rw [e]
  exact if_pos ok
/-! ### sorted(xs, reverse=b) -/
def sortR (b : Bool) (ds : List PyData) : List PyData := ds.mergeSort (PySem.W.dataLe b id)
def rSortR (K : PySem.W.Frag) (b : Bool) : List V → List V → Hp → VK → Prop := fun vs zs H Q => ∃ (F : Hp) (a : Addr) (ds : List PyData) (ws : List V), Same F H ∧ vs = [V.ref a] ∧ zs = [V.bl b] ∧ SqL K H a ws ∧ Paired (Rp K F) ds ws ∧ SortOk ds ∧
  ∀ (ws' : List V) (p : Addr), Paired (Rp K F) (sortR b ds) ws' → H p = none → Q (.ref p) (upd H p (.lst ws'))
theorem cr_sortR {b : Bool} (hu : X.A.units + 63 < cLine) : CallRK X (.builtin "sorted") [Str.ofString "reverse"] (rSortR X.K b) := by
  intro pins s σ H vs zs us ws0 Q I r rz h
  obtain ⟨F, a, ds, ws, hF, rfl, rfl, hs, hp, ⟨h1, h2, h3⟩, q⟩ := h
  obtain rfl := Vals.ref1 r
  obtain ⟨w1, rfl, e1⟩ := vals1 rz
  obtain rfl : w1 = Value.bool b := e1
  obtain ⟨its, rv, hl, hz⟩ := I.list hs
  have he := each_of hp rv
  have el : its.length = ds.length := he.length
  refine PySem.W.sorted_rev_data (enc := id) (R := fun v b => ∃ u, RelV u v ∧ Rp X.K F b u) (vs := its) (bs := ds) hl.isList he (he.mono fun v b ⟨u, q1, q2⟩ => Dp.reads I b u v (rp_dp b u (rp_mono hF b u q2)) q1) (by rw [List.map_id]; exact h1) (by rw [List.map_id]; exact h2) (by rw [← el, ← rv.length]; exact hz) (fun b hb => by have := h3 b hb; show X.A.units + 2 + b.depth < _; omega) fun out ho eo => ?_
  obtain ⟨ws', k3, k4⟩ := of_each eo
  have hlen : ws'.length ≤ sizeLine := by rw [k4.length, ho, ← el, ← rv.length]; exact hz
  obtain ⟨ep, he'⟩ := PyProof.Rows.sortedAll_at s.heap its (List.toArray out)
  exact ⟨.ref _, upd H (s.heap.objs.size + 1) (.lst ws'), I.laid (t' := s.toks) (fun _ _ => PyProof.Rows.sortedAll_old) (Nat.le_succ _) ⟨hlen, out, ep, k4, he'⟩, rfl, q ws' _ k3 (I.hok.fresh (Nat.le_succ _))⟩
open Classical in
noncomputable def gSortR (md : Md) (b : Bool) (a : Val) (S : Sto) : Option (Val × Sto) := match (viewS S a).bind unD with
  | some ds => if SortOk ds then alloc md ((sortR b ds).map .d) S else none
  | none => none
noncomputable def eSortR (md : Md) (b : Bool) (f : Ef) : Ef := fun ρ S => bnd (f ρ S) (gSortR md b)
theorem sortR_eq {md : Md} {b : Bool} {S : Sto} {a : Val} {xs : List Val} {ds : List PyData} (h : viewS S a = some xs) (hx : unD xs = some ds) (ok : SortOk ds) : gSortR md b a S = alloc md ((sortR b ds).map .d) S := by
  unfold gSortR
  have e : (viewS S a).bind unD = some ds := by rw [h]; exact hx
  rw [e]
  exact if_pos ok
theorem ee_sortR {md : Md} {b : Bool} {e : Expr} {f : Ef} {p pos kp kq : Pos} {j : Nat} (hu : X.A.units + 63 < cLine) (hm : X.mg "sorted" = none) (he : EE X e f) (hg : Gl X "sorted" := by rfl)
    (h0 : starEach [e] X.env = (false, eval e X.env) :: starEach [] X.env := by rfl) (h1 : backTo pos (starEach [e] X.env) = (false, eval e X.env) :: backTo pos (starEach [] X.env) := by rfl) (hpl : (backTo pos (starEach [e] X.env)).any (·.1) = false := by rfl)
    (hall : (backToKw pos (keywordEach [⟨some "reverse", .Constant (.bool b) j kp, kq⟩] X.env)).all (·.1.isSome) = true := by rfl) (hnone : (backToKw pos (keywordEach [⟨some "reverse", .Constant (.bool b) j kp, kq⟩] X.env)).any (·.1.isNone) = false := by rfl)
    (hks : (backToKw pos (keywordEach [⟨some "reverse", .Constant (.bool b) j kp, kq⟩] X.env)).filterMap (·.1) = [Str.ofString "reverse"] := by rfl) :
    EE X (.Call (.Name "sorted" p) [e] [⟨some "reverse", .Constant (.bool b) j kp, kq⟩] pos) (eSortR md b f) := by
  refine ee_of (pe_callBK (cr_sortR (b := b) hu) hg hm (by decide +kernel) (pa_cons he pa_nil h0) (pk_cons pe_bl pk_nil) (by decide) (by decide) h1 hpl hall hnone hks) fun F m H S ρ σ res S' ok ro e Q k => ?_
  obtain ⟨a, S1, e1, e⟩ := bnd_inv e
  refine sndE ok ro e1 _ fun v F1 m1 H1 st1 ok1 r1 => ?_
  unfold gSortR at e
  split at e
  · rename_i ds hd
    split at e
    · rename_i hz
      cases e2 : viewS S1 a with
      | none => rw [e2] at hd; cases hd
      | some xs =>
        rw [e2] at hd
        obtain ⟨p, ws, rfl, h1, h2⟩ := viewS_ok ok1 e2 r1
        exact ⟨F1, p, ds, ws, ok1.ex, rfl, rfl, .of h1, unD_ok hd h2, hz, fun ws' q h3 hq => alloc_ok ok1 (rp_rvs h3) e (k.on st1) hq⟩
    · cases e
  · cases e
/-! ### s.upper() -/
theorem mt_upper : MtR X "str.upper" (fun x xs H Q => ∃ a, x = .str a ∧ xs = [] ∧ a.length ≤ 5592405 ∧ Q (.str (Txt.upper a)) H) :=
  mt0 (C := fun a => a.length ≤ 5592405) (g := fun a => .str (Txt.upper a)) fun a t s Q hc h => PySem.SC.upper (PyProof.Rows.short24 (by have := PyProof.Rows.len_upper a; omega)) (h _ _ ⟨_, rfl⟩)
def eUpper (f : Ef) : Ef := fun ρ S => bnd (f ρ S) fun o S1 => match o with
  | .d (.str x) => if x.length ≤ 5592405 then some (.d (.str (Txt.upper x)), S1) else none
  | _ => none
theorem ee_upper {a : Expr} {fa : Ef} {apos pos : Pos} (ho : EE X a fa) (hbase : attributeBase a "upper" X.env (eval a X.env) = eval a X.env := by rfl) (hline : (apos.endLine == pos.line) = true := by rfl) : EE X (.Call (.Attribute a "upper" apos) [] [] pos) (eUpper fa) :=
  ee_of (pe_bm0 PySem.F.plainAttrs_str PySem.F.slot_str_upper PySem.F.type_str_upper mt_upper ho hbase hline) fun F m H S ρ σ res S' ok ro e Q k => by
    obtain ⟨o, S1, e1, e⟩ := bnd_inv e
    refine sndE ok ro e1 _ fun v F1 m1 H1 st1 ok1 r1 => ?_
    cases o with
    | d x =>
      cases x with
      | str x =>
        dsimp only at e
        split at e
        · rename_i hz
          cases e
          cases rv_str.mp r1
          exact ⟨rfl, x, rfl, rfl, hz, (k.on st1).here ok1 (rv_str.mpr rfl)⟩
        · cases e
      | _ => cases e
    | _ => cases e
theorem upper_eq {f : Ef} {ρ : Rho} {S S1 : Sto} {x : Str} (h : f ρ S = some (.d (.str x), S1)) (hz : x.length ≤ 5592405) : eUpper f ρ S = some (.d (.str (Txt.upper x)), S1) := by
  unfold eUpper
  rw [h]
  exact if_pos hz
end
end QL

namespace QL
open PySem PySem.Spec PyProof.Rows L2
/-! ### for k, v in d.items(), d a dict that changes no more -/
section
variable {K : PySem.W.Frag} {F F' H H' : Hp} {m m' : List Addr} {S S' : Sto} {ρ : Rho} {σ : L2.St} {X : Cx}
def pairD (p : L2.Key × Val) : Option PyData := match p.2 with
  | .d x => some (.tuple [unK p.1, x])
  | _ => none
def iDi (f : Ef) : If := fun ρ S => match f ρ S with
  | some (.c k, S1) => match S1[k]? with
    | some (.fk kvs) => match mapO pairD kvs with
      | some ds => some (ds, S1)
      | none => none
    | _ => none
  | _ => none
theorem mapO_get {α β : Type} {f : α → Option β} : ∀ {xs : List α} {ys : List β}, mapO f xs = some ys → ys.length = xs.length ∧ ∀ (i : Nat) (x : α), xs[i]? = some x → ∃ y, ys[i]? = some y ∧ f x = some y
  | [], ys, h => by cases h; exact ⟨rfl, fun i x h => by simp at h⟩
  | x :: xs, ys, h => by
    have h' : ((f x).bind fun b => (mapO f xs).map (b :: ·)) = some ys := h
    cases e : f x with
    | none => rw [e] at h'; cases h'
    | some b =>
      rw [e] at h'
      cases e2 : mapO f xs with
      | none => rw [e2] at h'; cases h'
      | some t =>
        rw [e2] at h'
        cases h'
        obtain ⟨h1, h2⟩ := mapO_get e2
        refine ⟨by simp [h1], fun i y hy => ?_⟩
        cases i with
        | zero =>
          simp at hy
          subst hy
          exact ⟨b, rfl, e⟩
        | succ i => exact h2 i y (by simpa using hy)
theorem itok_items {d : Addr} {o : Obj} {kvs : List (L2.Key × Val)} {ks : List (L2.Key × V)} {ds : List PyData} (h : F d = some (.frz o (.dK ks))) (hp : Paired (PV K F m) kvs ks) (hd : mapO pairD kvs = some ds) : ItOk K (Iti d o ks) F ds := fun i F1 m1 H1 S1 ex ok => by
  have hq := ok.ex _ _ (ex _ _ h)
  have hl := pr_len hp
  obtain ⟨h1, h2⟩ := mapO_get hd
  refine ⟨fun hi => ⟨hq, by omega⟩, fun hi => ⟨hq, by omega⟩, fun x H2 hlt hy => ?_⟩
  obtain ⟨T, k, v, hk, rfl, hT, rfl⟩ := hy
  obtain ⟨p, h3, h4⟩ := pr_get' hp hk
  obtain ⟨y, h5, h6⟩ := h2 i p h3
  obtain ⟨o1, o2⟩ := al_F (o := .tup [kV k, v]) ok hT
  have e : p.1 = k := h4.1
  have hv : RV K F m p.2 v := h4.2
  unfold pairD at h6
  cases e2 : p.2 with
  | d z =>
    rw [e2] at h6 hv
    cases h6
    refine ⟨_, _, h5, o2, o1, rp_tuple.mpr ⟨T, _, rfl, upd_same, .cons ?_ (.cons (rp_mono (ex.trans o2.ex) z v hv) .nil)⟩, fun b o hb => by rw [upd_ne (ne_of_none hb hT)]; exact hb⟩
    rw [e]
    exact rp_unK k
  | _ => rw [e2] at h6; cases h6
theorem ei_dki {a : Expr} {elts : List Expr} {kk : Nat} {tpos apos cpos : Pos} {fa : Ef} (ha : EE X a fa) (hbase : attributeBase a "items" X.env (eval a X.env) = eval a X.env := by rfl) (hline : (apos.endLine == cpos.line) = true := by rfl) :
    EI X (.Tuple elts kk tpos) (.Call (.Attribute a "items" apos) [] [] cpos) (iDi fa) := ei_of (pi_items ha hbase hline) fun F m H S ρ σ ds S' ok ro e R k => by
  unfold iDi at e
  split at e
  · rename_i kk S1 q
    refine sndE ok ro q _ fun v F1 m1 H1 st1 ok1 r1 => ?_
    obtain ⟨p, hm, rfl⟩ := r1
    split at e
    · rename_i kvs hS
      split at e
      · rename_i ds' hds
        cases e
        obtain ⟨o, ks, hF, hp⟩ := ok1.cell _ _ _ hm hS
        exact ⟨p, o, ks, rfl, ok1.ex _ _ hF, k _ _ _ _ st1 ok1 (itok_items hF hp hds)⟩
      · cases e
    · cases e
  · cases e
/-! ### list(d.values()) -/
def rValsL : V → Hp → VK → Prop := fun x H Q => ∃ (d : Addr) (kvs : List (L2.Key × V)), x = .ref d ∧ H d = some (.dK kvs) ∧ ∀ p : Addr, H p = none → Q (.ref p) (upd H p (.lst (kvs.map Prod.snd)))
def tListVals (te : TE) : TE := fun σ H Q => te σ H fun x H1 => rValsL x H1 Q
theorem vals_of_items {kvs : List (L2.Key × V)} {vs : List (L2.Key × Value)} {acc : Array Value} (kv : KV kvs vs) (hi : ItemsOf (fun i v => ∃ k, vs[i]? = some (k, v)) acc vs.length) : Vals (kvs.map Prod.snd) acc.toList := by
  have e : acc.toList = vs.map Prod.snd := by
    apply List.ext_getElem?
    intro i
    rw [List.getElem?_map]
    by_cases h : i < vs.length
    · have h1 : i < acc.size := by rw [hi.1]; exact h
      have e1 : acc[i]? = some acc[i] := Array.getElem?_eq_getElem h1
      obtain ⟨k, e2⟩ := hi.2 i _ e1
      rw [Array.getElem?_toList, e1, e2]
      rfl
    · rw [List.getElem?_eq_none (by rw [Array.length_toList, hi.1]; omega), List.getElem?_eq_none (by omega)]
      rfl
  rw [e]
  clear hi e
  induction kv with
  | nil => exact .nil
  | cons r t ih => exact .cons r.2 ih
theorem pe_listVals {e : Expr} {te : TE} {p apos cpos pos : Pos} (hc : X.calm = true) (he : PE X e te) (hg : Gl X "list") (hm : X.mg "list" = none) (hv : bootBuiltins "list" = some (.type "list")) (hbase : attributeBase e "values" X.env (eval e X.env) = eval e X.env := by rfl) (hline : (apos.endLine == cpos.line) = true := by rfl)
    (hs : starEach [.Call (.Attribute e "values" apos) [] [] cpos] X.env = (false, eval (.Call (.Attribute e "values" apos) [] [] cpos) X.env) :: starEach [] X.env := by rfl) :
    PE X (.Call (.Name "list" p) [.Call (.Attribute e "values" apos) [] [] cpos] [] pos) (tListVals te) := by
  refine ⟨fun pins s σ H Q I hq => ?_⟩
  refine wpAny_Call_Name_kw (ld_blt I hg hm hv ?_)
  refine PyProof.Rows.callWith_type1 ?_ hs rfl
  rw [hs]
  show wpAny _ _ (spliced ((false, eval (.Call (.Attribute e "values" apos) [] [] cpos) X.env) :: backTo pos (starEach [] X.env))) _ _ s
  refine Calls.spliced_cons ?_
  refine wpAny_Call_method (T := "dict") (id := "dict.values") hbase rfl hline F.plainAttrs_dict F.slot_dict_values F.type_dict_values (thn (he.run pins s σ H _ I hq) fun u s1 ⟨x, H1, I1, rx, d, kvs, ex, hd, q⟩ => ?_)
  subst ex
  obtain rfl : u = Value.ref d := rx
  obtain ⟨hz, hs0, vs, kv, hdo⟩ := I1.hok d _ hd
  obtain ⟨ep, hat⟩ := hdo.dictAt
  have lk : kvs.length = vs.length := Paired.length kv
  have I2 : Inv X pins σ H1 { s1 with heap := s1.heap.push { cls := .type "dict_values", data := .fields #[.ref d] } } := I1.kept (t' := s1.toks) fun b ob q => Heap.get?_push_of_some _ q
  refine ⟨hdo.typeIs, hdo.mapOf.noDict, ?_⟩
  show wpAny _ _ (callWith cpos (.builtin "dict.values") [.ref d] [] []) _ X.xe s1
  refine method_meetsIn F.slot_dict_values F.entry_dict_values rfl (PySem.evalArgs_none ⟨rfl, hdo.typeIs, F.args_dict_values_1 _, _, meets_dict_values (mixKind X.prog X.w) d hs0, ⟨vs, hdo⟩, ?_⟩)
  refine Calls.spliced_nil ?_
  refine PySem.W.kdl_call (PySem.W.kdl_values (knd := mixKind X.prog X.w) (kvs := vs) (ep := ep)) (I1.ok.hd hc) ⟨⟨_, Heap.get?_push_size _ rfl, rfl, rfl⟩, hat.push _⟩ (by omega) fun h' tk acc c hk hS hacc => ?_
  have hvals := vals_of_items kv hacc
  refine ⟨.ref _, upd H1 _ (.lst (kvs.map Prod.snd)), I2.laid (t' := tk) hk (Nat.le_refl _) ⟨by rw [List.length_map]; exact hz, acc.toList, c, hvals, by rw [Array.toArray_toList]; exact hS⟩, rfl, q _ (I2.hok.fresh (Nat.le_refl _))⟩
def gListVals (md : Md) (a : Val) (S : Sto) : Option (Val × Sto) := match a with
  | .c i => match S[i]? with
    | some (.dk kvs) => alloc md (kvs.map Prod.snd) S
    | _ => none
  | _ => none
def eListVals (md : Md) (f : Ef) : Ef := fun ρ S => bnd (f ρ S) (gListVals md)
theorem dvals_rv {kvs : List (L2.Key × Val)} {ks : List (L2.Key × V)} (h : Paired (PV K F m) kvs ks) : Paired (RV K F m) (kvs.map Prod.snd) (ks.map Prod.snd) := by
  induction h with
  | nil => exact .nil
  | cons r t ih => exact .cons r.2 ih
theorem ee_listVals (md : Md) {e : Expr} {fe : Ef} {p apos cpos pos : Pos} (hm : X.mg "list" = none) (he : EE X e fe) (hg : Gl X "list" := by rfl) (hc : X.calm = true := by rfl) (hbase : attributeBase e "values" X.env (eval e X.env) = eval e X.env := by rfl) (hline : (apos.endLine == cpos.line) = true := by rfl)
    (hs : starEach [.Call (.Attribute e "values" apos) [] [] cpos] X.env = (false, eval (.Call (.Attribute e "values" apos) [] [] cpos) X.env) :: starEach [] X.env := by rfl) :
    EE X (.Call (.Name "list" p) [.Call (.Attribute e "values" apos) [] [] cpos] [] pos) (eListVals md fe) :=
  ee_of (pe_listVals hc he hg hm (by decide +kernel) hbase hline hs) fun F m H S ρ σ res S' ok ro e Q k => by
    obtain ⟨a, S1, e1, e⟩ := bnd_inv e
    refine sndE ok ro e1 _ fun v F1 m1 H1 st1 ok1 r1 => ?_
    unfold gListVals at e
    split at e
    · split at e
      · rename_i kvs hS
        obtain ⟨p, hm, rfl⟩ := r1
        obtain ⟨hF, ks, hH, hp⟩ := ok1.cell _ _ _ hm hS
        exact ⟨p, ks, rfl, hH, fun q hq => alloc_ok ok1 (dvals_rv hp) e (k.on st1) hq⟩
      · cases e
    · cases e
end
end QL

namespace QW
open PySem PySem.Spec PyProof.Rows L2 QL
def topS (i : Nat) : Stmt := PySem.Challenge.pw_pickboard_k31_matched_least.main.body.getD i (.Pass ⟨0, 0, 0, 0⟩)
abbrev s_Matching___init__ : Stmt := inClass (topS 1) 0
theorem sc_Matching___init__ : FnScope ["self", "costs", "row", "k"] ["self", "costs"] (defScope s_Matching___init__) := ⟨rfl, rfl, rfl, by decide +kernel, rfl, by decide +kernel, by decide +kernel⟩
noncomputable def f_Matching___init__ : Sf := (sSeq (sFs "Matching" "costs" (eVar 0) (eVar 1)) (sSeq (sFs "Matching" "many" (eVar 0) (eIf (tst (eBin gGtI (eCB gLen (aCons (eVar 1) aNil)) (eC (.int 0)))) (eCB gLen (aCons (eBin gIx (eVar 1) (eC (.int 0))) aNil)) (eC (.int 0)))) (sSeq (sFs "Matching" "row_numbers" (eVar 0) (eLc .N (iSq (eVar 1)) (gN 2) fYes (eC (.int 0)) [2])) (sSeq (sFs "Matching" "column_numbers" (eVar 0) (eLc .N (iR1 (aCons (eAt "Matching" "many" (eVar 0)) aNil)) (gN 3) fYes (eC (.int 0)) [3])) (sFs "Matching" "owners" (eVar 0) (eLc .N (iR1 (aCons (eAt "Matching" "many" (eVar 0)) aNil)) (gN 3) fYes (eC .none) [3]))))))
noncomputable def p_Matching___init__ : List Val → Sto → Option (Val × Sto) := φall 4 f_Matching___init__
abbrev s_Matching_slack_at : Stmt := inClass (topS 1) 1
theorem sc_Matching_slack_at : FnScope ["self", "row", "column"] ["self", "row", "column"] (defScope s_Matching_slack_at) := ⟨rfl, rfl, rfl, by decide +kernel, rfl, by decide +kernel, by decide +kernel⟩
noncomputable def f_Matching_slack_at : Sf := (sRet (eBin gSub (eBin gSub (eBin gIx (eBin gIx (eAt "Matching" "costs" (eVar 0)) (eVar 1)) (eVar 2)) (eBin gIx (eAt "Matching" "row_numbers" (eVar 0)) (eVar 1))) (eBin gIx (eAt "Matching" "column_numbers" (eVar 0)) (eVar 2))))
noncomputable def p_Matching_slack_at : List Val → Sto → Option (Val × Sto) := φof 3 0 f_Matching_slack_at
abbrev s_Matching_raise_by : Stmt := inClass (topS 1) 2
theorem sc_Matching_raise_by : FnScope ["self", "some", "met", "rows", "row", "column"] ["self", "some", "met", "rows"] (defScope s_Matching_raise_by) := ⟨rfl, rfl, rfl, by decide +kernel, rfl, by decide +kernel, by decide +kernel⟩
noncomputable def f_Matching_raise_by : Sf := (sSeq (sForD (jSq (eVar 3)) (gN 4) (sAugS gAddI (eAt "Matching" "row_numbers" (eVar 0)) (eVar 4) (eVar 1))) (sForD (jSq (eVar 2)) (gN 5) (sAugS gSub (eAt "Matching" "column_numbers" (eVar 0)) (eVar 5) (eVar 1))))
noncomputable def p_Matching_raise_by : List Val → Sto → Option (Val × Sto) := φof 6 0 f_Matching_raise_by
abbrev s_Matching_best_free : Stmt := inClass (topS 1) 4
theorem sc_Matching_best_free : FnScope ["self", "rows", "met", "found", "row", "k"] ["self", "rows", "met"] (defScope s_Matching_best_free) := ⟨rfl, rfl, rfl, by decide +kernel, rfl, by decide +kernel, by decide +kernel⟩
noncomputable def f_Matching_best_free : Sf := (sSeq (sAsg (eLst .N aNil) (gN 3)) (sSeq (sForD (jSq (eVar 1)) (gN 4) (sExpr (eMt gExtend (eVar 3) (aCons (eLc .D (iR1 (aCons (eAt "Matching" "many" (eVar 0)) aNil)) (gN 5) (tst (eBin (gIn true) (eVar 5) (eVar 2))) (eTup (aCons (eMeth "Matching" "slack_at" 3 p_Matching_slack_at (eVar 0) (aCons (eVar 4) (aCons (eVar 5) aNil))) (aCons (eVar 5) (aCons (eVar 4) aNil)))) [5]) aNil)))) (sFrz 3 (sRet (eCB gMinL (aCons (eVar 3) aNil))))))
noncomputable def p_Matching_best_free : List Val → Sto → Option (Val × Sto) := φof 6 0 f_Matching_best_free
abbrev s_Matching_column_of : Stmt := inClass (topS 1) 6
theorem sc_Matching_column_of : FnScope ["self", "row"] ["self", "row"] (defScope s_Matching_column_of) := ⟨rfl, rfl, rfl, by decide +kernel, rfl, by decide +kernel, by decide +kernel⟩
noncomputable def f_Matching_column_of : Sf := (sRet (eIf (tst (eBin (gIn false) (eVar 1) (eAt "Matching" "owners" (eVar 0)))) (eMt gIndex (eAt "Matching" "owners" (eVar 0)) (aCons (eVar 1) aNil)) (eC .none)))
noncomputable def p_Matching_column_of : List Val → Sto → Option (Val × Sto) := φof 2 0 f_Matching_column_of
abbrev s_Matching_give_back : Stmt := inClass (topS 1) 5
theorem sc_Matching_give_back : FnScope ["self", "at", "came", "row", "owner", "before"] ["self", "at", "came", "row"] (defScope s_Matching_give_back) := ⟨rfl, rfl, rfl, by decide +kernel, rfl, by decide +kernel, by decide +kernel⟩
noncomputable def f_Matching_give_back : Sf := (sSeq (sAsg (eC .none) (gN 4)) (whileN (tst (eBin gNe (eVar 4) (eVar 3))) (sSeq (sAsg (eBin gDg (eVar 2) (eVar 1)) (gN 4)) (sSeq (sAsg (eMeth "Matching" "column_of" 2 p_Matching_column_of (eVar 0) (aCons (eVar 4) aNil)) (gN 5)) (sSeq (sAsg (eVar 4) (gSub2 (eAt "Matching" "owners" (eVar 0)) (eVar 1))) (sAsg (eVar 5) (gN 1))))) fuelW))
noncomputable def p_Matching_give_back : List Val → Sto → Option (Val × Sto) := φof 6 0 f_Matching_give_back
abbrev s_Matching_grow_by : Stmt := inClass (topS 1) 3
theorem sc_Matching_grow_by : FnScope ["self", "row", "rows", "met", "came", "at", "best"] ["self", "row"] (defScope s_Matching_grow_by) := ⟨rfl, rfl, rfl, by decide +kernel, rfl, by decide +kernel, by decide +kernel⟩
noncomputable def f_Matching_grow_by : Sf := (sSeq (sPar3 2 3 4 (aCons (eLst .N (aCons (eVar 1) aNil)) (aCons (eLst .N aNil) (aCons eDK aNil)))) (sSeq (sAsg (eC .none) (gN 5)) (sSeq (whileN (fOr (tst (eBin (gIs false) (eVar 5) (eC .none))) (tst (eBin (gIs true) (eBin gIx (eAt "Matching" "owners" (eVar 0)) (eVar 5)) (eC .none)))) (sSeq (sIf (tst (eBin (gIs true) (eVar 5) (eC .none))) (sExpr (eMt gAppend (eVar 2) (aCons (eBin gIx (eAt "Matching" "owners" (eVar 0)) (eVar 5)) aNil))) sNil) (sSeq (sAsg (eMeth "Matching" "best_free" 3 p_Matching_best_free (eVar 0) (aCons (eVar 2) (aCons (eVar 3) aNil))) (gN 6)) (sSeq (sExpr (eMeth "Matching" "raise_by" 4 p_Matching_raise_by (eVar 0) (aCons (eBin gIx (eVar 6) (eC (.int 0))) (aCons (eVar 3) (aCons (eVar 2) aNil))))) (sSeq (sAsg (eBin gIx (eVar 6) (eC (.int 1))) (gN 5)) (sSeq (sDp (eVar 4) (eVar 5) (eBin gIx (eVar 6) (eC (.int 2)))) (sExpr (eMt gAppend (eVar 3) (aCons (eVar 5) aNil)))))))) fuelW) (sFrz 3 (sFrz 2 (sExpr (eMeth "Matching" "give_back" 4 p_Matching_give_back (eVar 0) (aCons (eVar 5) (aCons (eVar 4) (aCons (eVar 1) aNil))))))))))
noncomputable def p_Matching_grow_by : List Val → Sto → Option (Val × Sto) := φof 7 0 f_Matching_grow_by
abbrev s_full_matching : Stmt := topS 2
theorem sc_full_matching : FnScope ["costs", "found", "row"] ["costs"] (defScope s_full_matching) := ⟨rfl, rfl, rfl, by decide +kernel, rfl, by decide +kernel, by decide +kernel⟩
noncomputable def f_full_matching : Sf := (sSeq (sAsg (eMake "Matching" 2 p_Matching___init__ (aCons (eVar 0) aNil)) (gN 1)) (sSeq (sFor (iR1 (aCons (eCB gLen (aCons (eVar 0) aNil)) aNil)) (gN 2) (sExpr (eMeth "Matching" "grow_by" 2 p_Matching_grow_by (eVar 1) (aCons (eVar 2) aNil)))) (sRet (eVar 1))))
noncomputable def p_full_matching : List Val → Sto → Option (Val × Sto) := φall 3 f_full_matching
abbrev s_sum_at : Stmt := topS 3
theorem sc_sum_at : FnScope ["costs", "columns", "row", "column"] ["costs", "columns"] (defScope s_sum_at) := ⟨rfl, rfl, rfl, by decide +kernel, rfl, by decide +kernel, by decide +kernel⟩
noncomputable def f_sum_at : Sf := (sRet (eCB gSum (aCons (eLcD .D (jEn (aCons (eVar 1) aNil)) (gTu 2 (gsN [2, 3])) fYes (eBin gIx (eBin gIx (eVar 0) (eVar 2)) (eVar 3)) [2, 3]) aNil)))
noncomputable def p_sum_at : List Val → Sto → Option (Val × Sto) := φof 4 0 f_sum_at
abbrev s_matched_slots : Stmt := topS 4
theorem sc_matched_slots : FnScope ["costs", "found", "row", "columns"] ["costs"] (defScope s_matched_slots) := ⟨rfl, rfl, rfl, by decide +kernel, rfl, by decide +kernel, by decide +kernel⟩
noncomputable def f_matched_slots : Sf := (sSeq (sAsg (eCall 1 p_full_matching (aCons (eVar 0) aNil)) (gN 1)) (sSeq (sAsg (eLc .N (iR1 (aCons (eCB gLen (aCons (eVar 0) aNil)) aNil)) (gN 2) fYes (eMeth "Matching" "column_of" 2 p_Matching_column_of (eVar 1) (aCons (eVar 2) aNil)) [2]) (gN 3)) (sRet (eTup (aCons (eCall 2 p_sum_at (aCons (eVar 0) (aCons (eVar 3) aNil))) (aCons (eVar 3) aNil))))))
noncomputable def p_matched_slots : List Val → Sto → Option (Val × Sto) := φall 4 f_matched_slots
abbrev s_law_box : Stmt := topS 6
theorem sc_law_box : FnScope ["_law_script", "_law_k", "_law_cell"] ["_law_script", "_law_k"] (defScope s_law_box) := ⟨rfl, rfl, rfl, by decide +kernel, rfl, by decide +kernel, by decide +kernel⟩
noncomputable def f_law_box : Sf := (sSeq (sAsg (eIf (tst (eBin gLtI (eVar 1) (eCB gLen (aCons (eVar 0) aNil)))) (eBin gIx (eVar 0) (eVar 1)) (eC (.int 0))) (gN 2)) (sRet (eLst .N (aCons (eBin (gMul .D) (eCB gAbs (aCons (eVar 2) aNil)) (eCB gInt (aCons (eBin gGeI (eCB gAbs (aCons (eVar 2) aNil)) (eBin gPow (eC (.int 10)) (eC (.int 18)))) aNil))) (aCons (eBin gMod (eBin (gMul .D) (eBin (gAdd .D) (eBin (gAdd .D) (eBin gMod (eVar 2) (eC (.int 2147483629))) (eBin (gMul .D) (eC (.int 15485863)) (eVar 1))) (eC (.int 37))) (eC (.int 48271))) (eC (.int 2147483647))) (aCons (eC (.int 0)) aNil))))))
noncomputable def p_law_box : List Val → Sto → Option (Val × Sto) := φof 3 1 f_law_box
abbrev s_law_take : Stmt := topS 7
theorem sc_law_take : FnScope ["_law_box_here", "_law_size", "_law_found", "_law_step", "_law_once", "_law_twice"] ["_law_box_here", "_law_size"] (defScope s_law_take) := ⟨rfl, rfl, rfl, by decide +kernel, rfl, by decide +kernel, by decide +kernel⟩
noncomputable def f_law_take : Sf := (sSeq (sIf (tst (eBin gGtI (eBin gIx (eVar 0) (eC (.int 0))) (eC (.int 0)))) (sSeq (sAsg (eCB gDivmod (aCons (eBin gIx (eVar 0) (eC (.int 0))) (aCons (eVar 1) aNil))) (gTu 2 (gsCons (gSub2 (eVar 0) (eC (.int 0))) (gsCons (gN 2) gsNil)))) (sRet (eVar 2))) sNil) (sSeq (sAsg (eBin (gAdd .D) (eBin gIx (eVar 0) (eC (.int 2))) (eC (.int 1))) (gSub2 (eVar 0) (eC (.int 2)))) (sSeq (sAsg (eBin (gAdd .D) (eC (.int 69621)) (eBin (gMul .D) (eBin gIx (eVar 0) (eC (.int 2))) (eBin gIx (eVar 0) (eC (.int 2))))) (gN 3)) (sSeq (sAsg (eBin gMod (eBin (gMul .D) (eBin (gAdd .D) (eBin gIx (eVar 0) (eC (.int 1))) (eBin (gMul .D) (eC (.int 39373)) (eBin gIx (eVar 0) (eC (.int 2))))) (eVar 3)) (eC (.int 2147483587))) (gN 4)) (sSeq (sAsg (eBin gMod (eBin (gAdd .D) (eBin (gMul .D) (eVar 4) (eBin (gAdd .D) (eBin gMod (eVar 4) (eC (.int 30011))) (eC (.int 5)))) (eBin gIx (eVar 0) (eC (.int 2)))) (eC (.int 2147483563))) (gN 5)) (sRet (eBin gMod (eBin gDiv (eBin gMod (eBin (gMul .D) (eVar 5) (eBin (gAdd .D) (eBin gMod (eVar 5) (eC (.int 1013))) (eC (.int 3)))) (eC (.int 998244353))) (eC (.int 16))) (eVar 1))))))))
noncomputable def p_law_take : List Val → Sto → Option (Val × Sto) := φof 6 0 f_law_take
abbrev s_law_folded : Stmt := topS 8
theorem sc_law_folded : FnScope ["_law_script", "_law_size", "_law_cells", "_law_k", "_law_cell"] ["_law_script", "_law_size"] (defScope s_law_folded) := ⟨rfl, rfl, rfl, by decide +kernel, rfl, by decide +kernel, by decide +kernel⟩
noncomputable def f_law_folded : Sf := (sSeq (sAsg (eCB (gList .N) (aCons (eSl .D (eVar 0) oNo (oSo (eVar 1))) aNil)) (gN 2)) (sSeq (sFor (iEn (aCons (eSl .D (eVar 0) (oSo (eVar 1)) (oSo (eC (.int 63)))) aNil)) (gTu 2 (gsCons (gN 3) (gsCons (gN 4) gsNil))) (sAsg (eBin (gAdd .D) (eBin gIx (eVar 2) (eBin gMod (eVar 3) (eVar 1))) (eBin (gMul .D) (eVar 4) (eBin (gAdd .D) (eVar 3) (eC (.int 2))))) (gSub2 (eVar 2) (eBin gMod (eVar 3) (eVar 1))))) (sFrz 2 (sRet (eFrz (eVar 2))))))
noncomputable def p_law_folded : List Val → Sto → Option (Val × Sto) := φof 5 0 f_law_folded
abbrev s_law_same : Stmt := topS 9
theorem sc_law_same : FnScope ["_law_found", "_law_due", "_law_one", "_law_other"] ["_law_found", "_law_due"] (defScope s_law_same) := ⟨rfl, rfl, rfl, by decide +kernel, rfl, by decide +kernel, by decide +kernel⟩
noncomputable def f_law_same (me : List Val → Sto → Option (Val × Sto)) : Sf := (sSeq (sIf (tst (gIsi ["list", "tuple"] (eVar 1))) (sSeq (sIf (fOr (fNot (tst (gIsi ["list", "tuple"] (eVar 0)))) (tst (eBin gNe (gIsi ["list"] (eVar 0)) (gIsi ["list"] (eVar 1))))) (sRet (eC (.bool false))) sNil) (sRet (eAnd (eBin gEq (eCB gLen (aCons (eVar 0) aNil)) (eCB gLen (aCons (eVar 1) aNil))) (eCB gAll (aCons (eLcD .D (jZp (aCons (eVar 0) (aCons (eVar 1) aNil))) (gTu 2 (gsN [2, 3])) fYes (eCall 2 me (aCons (eVar 2) (aCons (eVar 3) aNil))) [2, 3]) aNil))))) sNil) (sSeq (sIf (fOr (tst (eBin (gIs false) (eVar 1) (eC .none))) (tst (gIsi ["str"] (eVar 1)))) (sRet (eAnd (eBin gEq (eVar 0) (eVar 1)) (eBin gEq (gIsi ["str"] (eVar 0)) (gIsi ["str"] (eVar 1))))) sNil) (sRet (eAnd (gIsi ["int"] (eVar 0)) (eAnd (eBin gEq (gIsi ["bool"] (eVar 0)) (gIsi ["bool"] (eVar 1))) (eBin gEq (eVar 0) (eVar 1)))))))
noncomputable def p_law_same : List Val → Sto → Option (Val × Sto) := recφ 4 0 f_law_same 12
abbrev s_law_costs : Stmt := topS 10
theorem sc_law_costs : FnScope ["_law_box_here", "_law_rows", "_law_columns", "_law_most", "_law_row", "_law_k", "_law_found"] ["_law_box_here"] (defScope s_law_costs) := ⟨rfl, rfl, rfl, by decide +kernel, rfl, by decide +kernel, by decide +kernel⟩
noncomputable def f_law_costs : Sf := (sSeq (sAsg (eCall 2 p_law_take (aCons (eVar 0) (aCons (eBin gIx (eLst .D (aCons (eC (.int 6)) (aCons (eC (.int 6)) (aCons (eC (.int 6)) (aCons (eC (.int 13)) aNil))))) (eCall 2 p_law_take (aCons (eVar 0) (aCons (eC (.int 4)) aNil)))) aNil))) (gN 1)) (sSeq (sAsg (eBin (gAdd .D) (eVar 1) (eCall 2 p_law_take (aCons (eVar 0) (aCons (eCB gMin2 (aCons (eC (.int 4)) (aCons (eBin gSub (eC (.int 13)) (eVar 1)) aNil))) aNil)))) (gN 2)) (sSeq (sAsg (eBin gIx (eLst .D (aCons (eC (.int 2)) (aCons (eC (.int 4)) (aCons (eC (.int 30)) (aCons (eBin (gAdd .D) (eBin gPow (eC (.int 10)) (eC (.int 6))) (eC (.int 1))) aNil))))) (eCall 2 p_law_take (aCons (eVar 0) (aCons (eC (.int 4)) aNil)))) (gN 3)) (sSeq (sAsg (eLc .N (iR1 (aCons (eVar 1) aNil)) (gN 4) fYes (eLc .D (iR1 (aCons (eVar 2) aNil)) (gN 5) fYes (eCall 2 p_law_take (aCons (eVar 0) (aCons (eVar 3) aNil))) [5]) [4]) (gN 6)) (sSeq (sIf (fAnd (tst (eBin gGtI (eVar 1) (eC (.int 1)))) (tst (eBin gEq (eCall 2 p_law_take (aCons (eVar 0) (aCons (eC (.int 3)) aNil))) (eC (.int 0))))) (sAsg (eCB (gList .D) (aCons (eBin gIx (eVar 6) (eC (.int 0))) aNil)) (gSub2 (eVar 6) (eNeg (eC (.int 1))))) sNil) (sFrz 6 (sRet (eFrz (eVar 6)))))))))
noncomputable def p_law_costs : List Val → Sto → Option (Val × Sto) := φof 7 0 f_law_costs
abbrev s_law_least_sum : Stmt := topS 11
theorem sc_law_least_sum : FnScope ["_law_costs_here", "_law_marks", "_law_sums", "_law_k", "_law_row", "_law_more", "_law_used", "_law_total", "_law_one", "_law_key"] ["_law_costs_here"] (defScope s_law_least_sum) := ⟨rfl, rfl, rfl, by decide +kernel, rfl, by decide +kernel, by decide +kernel⟩
noncomputable def f_law_least_sum : Sf := (sSeq (sPar 1 2 (aCons (eLst .N (aCons (eC (.int 1)) aNil)) (aCons (eDisp [((eC (.int 0)), (eC (.int 0)))]) aNil))) (sSeq (sFor (iR1 (aCons (eC (.int 12)) aNil)) (gN 3) (sExpr (eMt gAppend (eVar 1) (aCons (eBin (gMul .D) (eC (.int 2)) (eBin gIx (eVar 1) (eNeg (eC (.int 1))))) aNil)))) (sFrz 1 (sSeq (sFor (iSq (eVar 0)) (gN 4) (sSeq (sAsg eDK (gN 5)) (sLock 2 (sSeq (sFor (iDi (eVar 2)) (gTu 2 (gsCons (gN 6) (gsCons (gN 7) gsNil))) (sFor (iEn (aCons (eVar 4) aNil)) (gTu 2 (gsCons (gN 3) (gsCons (gN 8) gsNil))) (sIf (tst (eBin gEq (eBin gMod (eBin gDiv (eVar 6) (eBin gIx (eVar 1) (eVar 3))) (eC (.int 2))) (eC (.int 0)))) (sSeq (sAsg (eBin (gAdd .D) (eVar 6) (eBin gIx (eVar 1) (eVar 3))) (gN 9)) (sDp (eVar 5) (eVar 9) (eCB gMin2 (aCons (eDgt (eVar 5) (eVar 9) (eBin (gAdd .D) (eVar 7) (eVar 8))) (aCons (eBin (gAdd .D) (eVar 7) (eVar 8)) aNil))))) sNil))) (sAsg (eVar 5) (gN 2)))))) (sRet (eCB gMinL (aCons (eListVals .D (eVar 2)) aNil)))))))
noncomputable def p_law_least_sum : List Val → Sto → Option (Val × Sto) := φof 10 0 f_law_least_sum
abbrev s_law_is_number : Stmt := topS 12
theorem sc_law_is_number : FnScope ["_law_thing"] ["_law_thing"] (defScope s_law_is_number) := ⟨rfl, rfl, rfl, by decide +kernel, rfl, by decide +kernel, by decide +kernel⟩
noncomputable def f_law_is_number : Sf := (sRet (eAnd (gIsi ["int"] (eVar 0)) (eNot (gIsi ["bool"] (eVar 0)))))
noncomputable def p_law_is_number : List Val → Sto → Option (Val × Sto) := φof 1 0 f_law_is_number
abbrev s_law_are_numbers : Stmt := topS 13
theorem sc_law_are_numbers : FnScope ["_law_thing", "_law_many", "_law_one"] ["_law_thing", "_law_many"] (defScope s_law_are_numbers) := ⟨rfl, rfl, rfl, by decide +kernel, rfl, by decide +kernel, by decide +kernel⟩
noncomputable def f_law_are_numbers : Sf := (sRet (eAnd (gIsi ["list"] (eVar 0)) (eAnd (eBin gEq (eCB gLen (aCons (eVar 0) aNil)) (eVar 1)) (eCB gAll (aCons (eLcD .D (jSq (eVar 0)) (gN 2) fYes (eCall 1 p_law_is_number (aCons (eVar 2) aNil)) [2]) aNil)))))
noncomputable def p_law_are_numbers : List Val → Sto → Option (Val × Sto) := φof 3 0 f_law_are_numbers
abbrev s_law_right : Stmt := topS 14
theorem sc_law_right : FnScope ["_law_box_here", "_law_turn", "_law_costs_here", "_law_kept", "_law_found", "_law_columns", "_law_one", "_law_row", "_law_text"] ["_law_box_here"] (defScope s_law_right) := ⟨rfl, rfl, rfl, by decide +kernel, rfl, by decide +kernel, by decide +kernel⟩
noncomputable def f_law_right : Sf := (sSeq (sFor (iR1 (aCons (eC (.int 2)) aNil)) (gN 1) (sSeq (sAsg (eCall 1 p_law_costs (aCons (eVar 0) aNil)) (gN 2)) (sSeq (sPar 3 4 (aCons (eCB gStrA (aCons (eVar 2) aNil)) (aCons (eCall 1 p_matched_slots (aCons (eVar 2) aNil)) aNil))) (sSeq (sIf (fOr (fNot (tst (gIsi ["tuple"] (eVar 4)))) (fOr (tst (eBin gNe (eCB gLen (aCons (eVar 4) aNil)) (eC (.int 2)))) (fNot (tst (eCall 2 p_law_are_numbers (aCons (eBin gIx (eVar 4) (eC (.int 1))) (aCons (eCB gLen (aCons (eVar 2) aNil)) aNil))))))) (sRet (eC (.bool false))) sNil) (sSeq (sAsg (eBin gIx (eVar 4) (eC (.int 1))) (gN 5)) (sSeq (sIf (fOr (fNot (tst (eCB gAll (aCons (eLcD .D (jSq (eVar 5)) (gN 6) fYes (eChain gLe gLtI (eC (.int 0)) (eVar 6) (eCB gLen (aCons (eBin gIx (eVar 2) (eC (.int 0))) aNil))) [6]) aNil)))) (tst (eBin gNe (eLenS (eVar 5)) (eCB gLen (aCons (eVar 5) aNil))))) (sRet (eC (.bool false))) sNil) (sSeq (sIf (fNot (tst (eCall 2 p_law_same (aCons (eBin gIx (eVar 4) (eC (.int 0))) (aCons (eCB gSum (aCons (eLcD .D (jZp (aCons (eVar 2) (aCons (eVar 5) aNil))) (gTu 2 (gsN [7, 6])) fYes (eBin gIx (eVar 7) (eVar 6)) [7, 6]) aNil)) aNil))))) (sRet (eC (.bool false))) sNil) (sSeq (sIf (tst (eBin gNe (eBin gIx (eVar 4) (eC (.int 0))) (eCall 1 p_law_least_sum (aCons (eVar 2) aNil)))) (sRet (eC (.bool false))) sNil) (sSeq (sAsg (eCB gStrA (aCons (eVar 4) aNil)) (gN 8)) (sSeq (sExpr (eMt gAppend (eVar 5) (aCons (eC (.int 0)) aNil))) (sFrz 5 (sIf (fOr (tst (eBin gNe (eCB gStrA (aCons (eCall 1 p_matched_slots (aCons (eVar 2) aNil)) aNil)) (eVar 8))) (tst (eBin gNe (eCB gStrA (aCons (eVar 2) aNil)) (eVar 3)))) (sRet (eC (.bool false))) sNil)))))))))))) (sRet (eC (.bool true))))
noncomputable def p_law_right : List Val → Sto → Option (Val × Sto) := φof 9 0 f_law_right
abbrev s_law : Stmt := topS 15
theorem sc_law : FnScope ["_law_script", "_law_cells", "_law_k"] ["_law_script"] (defScope s_law) := ⟨rfl, rfl, rfl, by decide +kernel, rfl, by decide +kernel, by decide +kernel⟩
noncomputable def f_law : Sf := (sSeq (sAsg (eCall 2 p_law_folded (aCons (eVar 0) (aCons (eC (.int 4)) aNil))) (gN 1)) (sRet (eCB gAll (aCons (eLc .D (iR1 (aCons (eCB gMax2 (aCons (eC (.int 2)) (aCons (eCB gLen (aCons (eVar 1) aNil)) aNil))) aNil)) (gN 2) fYes (eCall 1 p_law_right (aCons (eCall 2 p_law_box (aCons (eVar 1) (aCons (eVar 2) aNil))) aNil)) [2]) aNil))))
noncomputable def p_law : List Val → Sto → Option (Val × Sto) := φof 3 0 f_law
structure Txt (mg : Str → Option Value) : Prop where
  m_abs : mg "abs" = none
  m_all : mg "all" = none
  m_bool : mg "bool" = none
  m_divmod : mg "divmod" = none
  m_enumerate : mg "enumerate" = none
  m_int : mg "int" = none
  m_isinstance : mg "isinstance" = none
  m_len : mg "len" = none
  m_list : mg "list" = none
  m_max : mg "max" = none
  m_min : mg "min" = none
  m_range : mg "range" = none
  m_set : mg "set" = none
  m_str : mg "str" = none
  m_sum : mg "sum" = none
  m_tuple : mg "tuple" = none
  m_zip : mg "zip" = none
section
variable {P : Program} {w : World} {K : PySem.W.Frag} {mg : Str → Option Value} {base : Heap}
theorem ok_Matching___init__ {f : Addr} {fd : FuncData} (T : Txt mg) {C_Matching : Addr} (cc_Matching : ClsQ K C_Matching "Matching" ["costs", "many", "row_numbers", "column_numbers", "owners"]) (F : Fun K "__init__" "Matching.__init__" s_Matching___init__ f fd) (hm : Mk K C_Matching f) (gm : mg "Matching" = some (.ref C_Matching)) (hns : PySem.W.nsIn K mainGlobals "Matching" = some (some (.ref C_Matching))) (hb : Binds K fd ["self", "costs"] [])  : MakOk P w K mg base 1 C_Matching "Matching" 2 p_Matching___init__ :=
  mak_ok F hm gm hns sc_Matching___init__ hb rfl (fun cdv A outer s H hr => (sss_cons (ss_fs cc_Matching (by decide +kernel) (ev 0) (ev 1)) (sss_cons (ss_fs cc_Matching (by decide +kernel) (ev 0) (ee_if (et_cmp og_gtI (ee_cb cg_len T.m_len (ea_cons (ev 1) ea_nil)) ei) (ee_cb cg_len T.m_len (ea_cons (ee_ix (ev 1) ei) ea_nil)) ei)) (sss_cons (ss_fs cc_Matching (by decide +kernel) (ev 0) (ee_lc .N [("row", 2)] sc_Matching___init__.nd (ei_seq (ev 1)) (blkOk_by (N := ["self", "costs", "row", "k"]) (sc := defScope s_Matching___init__) (scope := lcS (xS (bdS s_Matching___init__ 2))) (own := [("row", 2)]) (by decide +kernel)) (.name 2 (by decide)) (fun _ _ _ _ _ => pg_name (i := 2) sc_Matching___init__.nd rfl (by first | exact Or.inl rfl | exact Or.inr rfl)) (fun _ _ _ _ _ => ets_nil) (fun _ _ _ _ _ => ei))) (sss_cons (ss_fs cc_Matching (by decide +kernel) (ev 0) (ee_lc .N [("k", 3)] sc_Matching___init__.nd (ei_r1 T.m_range (ea_cons (ee_at cc_Matching (by decide +kernel) (ev 0)) ea_nil)) (blkOk_by (N := ["self", "costs", "row", "k"]) (sc := defScope s_Matching___init__) (scope := lcS (xS (bdS s_Matching___init__ 3))) (own := [("k", 3)]) (by decide +kernel)) (.name 3 (by decide)) (fun _ _ _ _ _ => pg_name (i := 3) sc_Matching___init__.nd rfl (by first | exact Or.inl rfl | exact Or.inr rfl)) (fun _ _ _ _ _ => ets_nil) (fun _ _ _ _ _ => ei))) (sss_one (ss_fs cc_Matching (by decide +kernel) (ev 0) (ee_lc .N [("k", 3)] sc_Matching___init__.nd (ei_r1 T.m_range (ea_cons (ee_at cc_Matching (by decide +kernel) (ev 0)) ea_nil)) (blkOk_by (N := ["self", "costs", "row", "k"]) (sc := defScope s_Matching___init__) (scope := lcS (xS (bdS s_Matching___init__ 4))) (own := [("k", 3)]) (by decide +kernel)) (.name 3 (by decide)) (fun _ _ _ _ _ => pg_name (i := 3) sc_Matching___init__.nd rfl (by first | exact Or.inl rfl | exact Or.inr rfl)) (fun _ _ _ _ _ => ets_nil) (fun _ _ _ _ _ => eno))))))))) (does_all _ _ _)
theorem ok_Matching_slack_at {f : Addr} {fd : FuncData} (T : Txt mg) {C_Matching : Addr} (cc_Matching : ClsQ K C_Matching "Matching" ["costs", "many", "row_numbers", "column_numbers", "owners"]) (F : Fun K "slack_at" "Matching.slack_at" s_Matching_slack_at f fd) (hm : Meth K C_Matching "slack_at" f) (hb : Binds K fd ["self", "row", "column"] [])  : MetOk P w K mg base 1 C_Matching "slack_at" 3 p_Matching_slack_at :=
  met_ok F hm sc_Matching_slack_at hb rfl (fun cdv A outer s H hr => (sss_one (ss_ret (ee_op og_sub (ee_op og_sub (ee_ix (ee_ix (ee_at cc_Matching (by decide +kernel) (ev 0)) (ev 1)) (ev 2)) (ee_ix (ee_at cc_Matching (by decide +kernel) (ev 0)) (ev 1))) (ee_ix (ee_at cc_Matching (by decide +kernel) (ev 0)) (ev 2)))))) (does_of _ _ _ _)
theorem ok_Matching_raise_by {f : Addr} {fd : FuncData} (T : Txt mg) {C_Matching : Addr} (cc_Matching : ClsQ K C_Matching "Matching" ["costs", "many", "row_numbers", "column_numbers", "owners"]) (F : Fun K "raise_by" "Matching.raise_by" s_Matching_raise_by f fd) (hm : Meth K C_Matching "raise_by" f) (hb : Binds K fd ["self", "some", "met", "rows"] [])  : MetOk P w K mg base 1 C_Matching "raise_by" 4 p_Matching_raise_by :=
  met_ok F hm sc_Matching_raise_by hb rfl (fun cdv A outer s H hr => (sss_cons (ss_forD (ej_seq (ev 3)) (eg_name 4 sc_Matching_raise_by.nd) (sss_one (ss_augS og_iaddI (ee_at cc_Matching (by decide +kernel) (ev 0)) (ev 4) (ev 1)))) (sss_one (ss_forD (ej_seq (ev 2)) (eg_name 5 sc_Matching_raise_by.nd) (sss_one (ss_augS og_isubI (ee_at cc_Matching (by decide +kernel) (ev 0)) (ev 5) (ev 1))))))) (does_of _ _ _ _)
theorem ok_Matching_best_free {f : Addr} {fd : FuncData} (T : Txt mg) {C_Matching : Addr} (cc_Matching : ClsQ K C_Matching "Matching" ["costs", "many", "row_numbers", "column_numbers", "owners"]) (F : Fun K "best_free" "Matching.best_free" s_Matching_best_free f fd) (hm : Meth K C_Matching "best_free" f) (hb : Binds K fd ["self", "rows", "met"] []) (D_Matching_slack_at : MetOk P w K mg base 1 C_Matching "slack_at" 3 p_Matching_slack_at) : MetOk P w K mg base 2 C_Matching "best_free" 3 p_Matching_best_free :=
  met_ok F hm sc_Matching_best_free hb rfl (fun cdv A outer s H hr => (sss_cons (ss_set 3 sc_Matching_best_free.nd (ee_lst .N ea_nil)) (sss_cons (ss_forD (ej_seq (ev 1)) (eg_name 4 sc_Matching_best_free.nd) (sss_one (ss_expr (ee_extend (ev 3) (ea_cons (ee_lc .D [("k", 5)] sc_Matching_best_free.nd (ei_r1 T.m_range (ea_cons (ee_at cc_Matching (by decide +kernel) (ev 0)) ea_nil)) (blkOk_by (N := ["self", "rows", "met", "found", "row", "k"]) (sc := defScope s_Matching_best_free) (scope := lcS (xk (xS (sS (bdS s_Matching_best_free 1) 0 0)) 1)) (own := [("k", 5)]) (by decide +kernel)) (.name 5 (by decide)) (fun _ _ _ _ _ => pg_name (i := 5) sc_Matching_best_free.nd rfl (by first | exact Or.inl rfl | exact Or.inr rfl)) (fun _ _ _ _ _ => ets_one (et_cmp (og_notin hr.room) (ev 5) (ev 2))) (fun _ _ _ _ _ => (ee_tup (ea_cons (ee_meth cc_Matching (D_Matching_slack_at.mono (by first | omega | exact Nat.le_refl _ | (simp only [Nat.add_eq]; omega))) hr (ev 0) (ea_cons (ev 4) (ea_cons (ev 5) ea_nil))) (ea_cons (ev 5) (ea_cons (ev 4) ea_nil)))))) ea_nil))))) (sss_frz 3 (sss_one (ss_ret (ee_cb (cg_minL (hu65 hr)) T.m_min (ea_cons (ev 3) ea_nil)))))))) (does_of _ _ _ _)
theorem ok_Matching_column_of {f : Addr} {fd : FuncData} (T : Txt mg) {C_Matching : Addr} (cc_Matching : ClsQ K C_Matching "Matching" ["costs", "many", "row_numbers", "column_numbers", "owners"]) (F : Fun K "column_of" "Matching.column_of" s_Matching_column_of f fd) (hm : Meth K C_Matching "column_of" f) (hb : Binds K fd ["self", "row"] [])  : MetOk P w K mg base 1 C_Matching "column_of" 2 p_Matching_column_of :=
  met_ok F hm sc_Matching_column_of hb rfl (fun cdv A outer s H hr => (sss_one (ss_ret (ee_if (et_cmp (og_in hr.room) (ev 1) (ee_at cc_Matching (by decide +kernel) (ev 0))) (ee_index (hu65c hr) (ee_at cc_Matching (by decide +kernel) (ev 0)) (ea_cons (ev 1) ea_nil)) eno)))) (does_of _ _ _ _)
theorem ok_Matching_give_back {f : Addr} {fd : FuncData} (T : Txt mg) {C_Matching : Addr} (cc_Matching : ClsQ K C_Matching "Matching" ["costs", "many", "row_numbers", "column_numbers", "owners"]) (F : Fun K "give_back" "Matching.give_back" s_Matching_give_back f fd) (hm : Meth K C_Matching "give_back" f) (hb : Binds K fd ["self", "at", "came", "row"] []) (D_Matching_column_of : MetOk P w K mg base 1 C_Matching "column_of" 2 p_Matching_column_of) : MetOk P w K mg base 2 C_Matching "give_back" 4 p_Matching_give_back :=
  met_ok F hm sc_Matching_give_back hb rfl (fun cdv A outer s H hr => (sss_cons (ss_set 4 sc_Matching_give_back.nd eno) (sss_one (ss_while fuelW (et_cmp (og_ne hr.room) (ev 4) (ev 3)) (sss_cons (ss_set 4 sc_Matching_give_back.nd (ee_dg hr (ev 2) (ev 1))) (sss_cons (ss_set 5 sc_Matching_give_back.nd (ee_meth cc_Matching (D_Matching_column_of.mono (by first | omega | exact Nat.le_refl _ | (simp only [Nat.add_eq]; omega))) hr (ev 0) (ea_cons (ev 4) ea_nil))) (sss_cons (ss_asg (ev 4) (eg_sub (ee_at cc_Matching (by decide +kernel) (ev 0)) (ev 1))) (sss_one (ss_set 1 sc_Matching_give_back.nd (ev 5)))))))))) (does_of _ _ _ _)
theorem ok_Matching_grow_by {f : Addr} {fd : FuncData} (T : Txt mg) {C_Matching : Addr} (cc_Matching : ClsQ K C_Matching "Matching" ["costs", "many", "row_numbers", "column_numbers", "owners"]) (F : Fun K "grow_by" "Matching.grow_by" s_Matching_grow_by f fd) (hm : Meth K C_Matching "grow_by" f) (hb : Binds K fd ["self", "row"] []) (D_Matching_best_free : MetOk P w K mg base 2 C_Matching "best_free" 3 p_Matching_best_free) (D_Matching_raise_by : MetOk P w K mg base 1 C_Matching "raise_by" 4 p_Matching_raise_by) (D_Matching_give_back : MetOk P w K mg base 2 C_Matching "give_back" 4 p_Matching_give_back) : MetOk P w K mg base 3 C_Matching "grow_by" 2 p_Matching_grow_by :=
  met_ok F hm sc_Matching_grow_by hb rfl (fun cdv A outer s H hr => (sss_cons (ss_par3 2 3 4 sc_Matching_grow_by.nd (ea_cons (ee_lst .N (ea_cons (ev 1) ea_nil)) (ea_cons (ee_lst .N ea_nil) (ea_cons ee_dk ea_nil)))) (sss_cons (ss_set 5 sc_Matching_grow_by.nd eno) (sss_cons (ss_while fuelW (et_bo (ew_or (et_cmp og_is (ev 5) eno) (ew_or1 (et_cmp og_isnot (ee_ix (ee_at cc_Matching (by decide +kernel) (ev 0)) (ev 5)) eno)))) (sss_cons (ss_if (et_cmp og_isnot (ev 5) eno) (sss_one (ss_expr (ee_append (ev 2) (ea_cons (ee_ix (ee_at cc_Matching (by decide +kernel) (ev 0)) (ev 5)) ea_nil)))) sss_nil) (sss_cons (ss_set 6 sc_Matching_grow_by.nd (ee_meth cc_Matching (D_Matching_best_free.mono (by first | omega | exact Nat.le_refl _ | (simp only [Nat.add_eq]; omega))) hr (ev 0) (ea_cons (ev 2) (ea_cons (ev 3) ea_nil)))) (sss_cons (ss_expr (ee_meth cc_Matching (D_Matching_raise_by.mono (by first | omega | exact Nat.le_refl _ | (simp only [Nat.add_eq]; omega))) hr (ev 0) (ea_cons (ee_ix (ev 6) ei) (ea_cons (ev 3) (ea_cons (ev 2) ea_nil))))) (sss_cons (ss_set 5 sc_Matching_grow_by.nd (ee_ix (ev 6) ei)) (sss_cons (ss_dp hr (ev 4) (ev 5) (ee_ix (ev 6) ei)) (sss_one (ss_expr (ee_append (ev 3) (ea_cons (ev 5) ea_nil)))))))))) (sss_frz 3 (sss_frz 2 (sss_one (ss_expr (ee_meth cc_Matching (D_Matching_give_back.mono (by first | omega | exact Nat.le_refl _ | (simp only [Nat.add_eq]; omega))) hr (ev 0) (ea_cons (ev 5) (ea_cons (ev 4) (ea_cons (ev 1) ea_nil)))))))))))) (does_of _ _ _ _)
theorem ok_full_matching {f : Addr} {fd : FuncData} (T : Txt mg) (F : Fun K "full_matching" "full_matching" s_full_matching f fd) (gm : mg "full_matching" = some (.ref f)) (hb : Binds K fd ["costs"] [])  {C_Matching : Addr} (cc_Matching : ClsQ K C_Matching "Matching" ["costs", "many", "row_numbers", "column_numbers", "owners"]) (D_Matching___init__ : MakOk P w K mg base 1 C_Matching "Matching" 2 p_Matching___init__) (D_Matching_grow_by : MetOk P w K mg base 3 C_Matching "grow_by" 2 p_Matching_grow_by) : DefOk P w K mg base 4 "full_matching" 1 p_full_matching :=
  def_ok F gm sc_full_matching hb rfl (fun cdv A outer s H hr => (sss_cons (ss_set 1 sc_full_matching.nd (ee_make (D_Matching___init__.mono (by first | omega | exact Nat.le_refl _ | (simp only [Nat.add_eq]; omega))) hr (ea_cons (ev 0) ea_nil))) (sss_cons (ss_for (ei_r1 T.m_range (ea_cons (ee_cb cg_len T.m_len (ea_cons (ev 0) ea_nil)) ea_nil)) (eg_name 2 sc_full_matching.nd) (sss_one (ss_expr (ee_meth cc_Matching (D_Matching_grow_by.mono (by first | omega | exact Nat.le_refl _ | (simp only [Nat.add_eq]; omega))) hr (ev 1) (ea_cons (ev 2) ea_nil))))) (sss_one (ss_ret (ev 1)))))) (does_all _ _ _)
theorem ok_sum_at {f : Addr} {fd : FuncData} (T : Txt mg) (F : Fun K "sum_at" "sum_at" s_sum_at f fd) (gm : mg "sum_at" = some (.ref f)) (hb : Binds K fd ["costs", "columns"] [])   : DefOk P w K mg base 1 "sum_at" 2 p_sum_at :=
  def_ok F gm sc_sum_at hb rfl (fun cdv A outer s H hr => (sss_one (ss_ret (ee_cb cg_sum T.m_sum (ea_cons (ee_lcD .D [("row", 2), ("column", 3)] sc_sum_at.nd (ej_enum T.m_enumerate (ea_cons (ev 1) ea_nil)) (blkOk_by (N := ["costs", "columns", "row", "column"]) (sc := defScope s_sum_at) (scope := lcS (xk (xS (bdS s_sum_at 0)) 1)) (own := [("row", 2), ("column", 3)]) (by decide +kernel)) (lct_tup 2 [2, 3]) (fun _ _ _ _ _ => pg_tup rfl (pgs_cons (pg_name (i := 2) sc_sum_at.nd rfl (by first | exact Or.inl rfl | exact Or.inr rfl)) (pgs_cons (pg_name (i := 3) sc_sum_at.nd rfl (by first | exact Or.inl rfl | exact Or.inr rfl)) pgs_nil))) (fun _ _ _ _ _ => ets_nil) (fun _ _ _ _ _ => (ee_ix (ee_ix (ev 0) (ev 2)) (ev 3)))) ea_nil))))) (does_of _ _ _ _)
theorem ok_matched_slots {f : Addr} {fd : FuncData} (T : Txt mg) (F : Fun K "matched_slots" "matched_slots" s_matched_slots f fd) (gm : mg "matched_slots" = some (.ref f)) (hb : Binds K fd ["costs"] [])  {C_Matching : Addr} (cc_Matching : ClsQ K C_Matching "Matching" ["costs", "many", "row_numbers", "column_numbers", "owners"]) (D_full_matching : DefOk P w K mg base 4 "full_matching" 1 p_full_matching) (D_Matching_column_of : MetOk P w K mg base 1 C_Matching "column_of" 2 p_Matching_column_of) (D_sum_at : DefOk P w K mg base 1 "sum_at" 2 p_sum_at) : DefOk P w K mg base 5 "matched_slots" 1 p_matched_slots :=
  def_ok F gm sc_matched_slots hb rfl (fun cdv A outer s H hr => (sss_cons (ss_set 1 sc_matched_slots.nd (ee_call (D_full_matching.mono (by first | omega | exact Nat.le_refl _ | (simp only [Nat.add_eq]; omega))) hr (ea_cons (ev 0) ea_nil))) (sss_cons (ss_setLc .N 3 [("row", 2)] sc_matched_slots.nd (ei_r1 T.m_range (ea_cons (ee_cb cg_len T.m_len (ea_cons (ev 0) ea_nil)) ea_nil)) (blkOk_by (N := ["costs", "found", "row", "columns"]) (sc := defScope s_matched_slots) (scope := lcS (xS (bdS s_matched_slots 1))) (own := [("row", 2)]) (by decide +kernel)) (.name 2 (by decide)) (fun _ _ _ _ _ => pg_name (i := 2) sc_matched_slots.nd rfl (by first | exact Or.inl rfl | exact Or.inr rfl)) (fun _ _ _ _ _ => ets_nil) (fun _ _ _ _ _ => (ee_meth cc_Matching (D_Matching_column_of.mono (by first | omega | exact Nat.le_refl _ | (simp only [Nat.add_eq]; omega))) hr (ev 1) (ea_cons (ev 2) ea_nil)))) (sss_one (ss_ret (ee_tup (ea_cons (ee_call (D_sum_at.mono (by first | omega | exact Nat.le_refl _ | (simp only [Nat.add_eq]; omega))) hr (ea_cons (ev 0) (ea_cons (ev 3) ea_nil))) (ea_cons (ev 3) ea_nil)))))))) (does_all _ _ _)
theorem ok_law_box {f : Addr} {fd : FuncData} (T : Txt mg) (F : Fun K "_law_box" "_law_box" s_law_box f fd) (gm : mg "_law_box" = some (.ref f)) (hb : Binds K fd ["_law_script", "_law_k"] [])   : DefOk P w K mg base 1 "_law_box" 2 p_law_box :=
  def_ok F gm sc_law_box hb rfl (fun cdv A outer s H hr => (sss_cons (ss_set 2 sc_law_box.nd (ee_if (et_cmp og_ltI (ev 1) (ee_cb cg_len T.m_len (ea_cons (ev 0) ea_nil))) (ee_ix (ev 0) (ev 1)) ei)) (sss_one (ss_ret (ee_lst .N (ea_cons (ee_op (og_mul .D) (ee_cb cg_abs T.m_abs (ea_cons (ev 2) ea_nil)) (ee_cty cg_int T.m_int (ea_cons (ee_cmp og_geI (ee_cb cg_abs T.m_abs (ea_cons (ev 2) ea_nil)) (ee_op og_pow ei ei)) ea_nil))) (ea_cons (ee_op og_mod (ee_op (og_mul .D) (ee_op (og_add .D) (ee_op (og_add .D) (ee_op og_mod (ev 2) ei) (ee_op (og_mul .D) ei (ev 1))) ei) ei) ei) (ea_cons ei ea_nil)))))))) (does_of _ _ _ _)
theorem ok_law_take {f : Addr} {fd : FuncData} (T : Txt mg) (F : Fun K "_law_take" "_law_take" s_law_take f fd) (gm : mg "_law_take" = some (.ref f)) (hb : Binds K fd ["_law_box_here", "_law_size"] [])   : DefOk P w K mg base 1 "_law_take" 2 p_law_take :=
  def_ok F gm sc_law_take hb rfl (fun cdv A outer s H hr => (sss_cons (ss_if (et_cmp og_gtI (ee_ix (ev 0) ei) ei) (sss_cons (ss_asg (ee_cb cg_divmod T.m_divmod (ea_cons (ee_ix (ev 0) ei) (ea_cons (ev 1) ea_nil))) (eg_tup (egs_cons (eg_sub (ev 0) ei) (egs_cons (eg_name 2 sc_law_take.nd) egs_nil)))) (sss_one (ss_ret (ev 2)))) sss_nil) (sss_cons (ss_asg (ee_op (og_add .D) (ee_ix (ev 0) ei) ei) (eg_sub (ev 0) ei)) (sss_cons (ss_set 3 sc_law_take.nd (ee_op (og_add .D) ei (ee_op (og_mul .D) (ee_ix (ev 0) ei) (ee_ix (ev 0) ei)))) (sss_cons (ss_set 4 sc_law_take.nd (ee_op og_mod (ee_op (og_mul .D) (ee_op (og_add .D) (ee_ix (ev 0) ei) (ee_op (og_mul .D) ei (ee_ix (ev 0) ei))) (ev 3)) ei)) (sss_cons (ss_set 5 sc_law_take.nd (ee_op og_mod (ee_op (og_add .D) (ee_op (og_mul .D) (ev 4) (ee_op (og_add .D) (ee_op og_mod (ev 4) ei) ei)) (ee_ix (ev 0) ei)) ei)) (sss_one (ss_ret (ee_op og_mod (ee_op og_div (ee_op og_mod (ee_op (og_mul .D) (ev 5) (ee_op (og_add .D) (ee_op og_mod (ev 5) ei) ei)) ei) ei) (ev 1)))))))))) (does_of _ _ _ _)
theorem ok_law_folded {f : Addr} {fd : FuncData} (T : Txt mg) (F : Fun K "_law_folded" "_law_folded" s_law_folded f fd) (gm : mg "_law_folded" = some (.ref f)) (hb : Binds K fd ["_law_script", "_law_size"] [])   : DefOk P w K mg base 1 "_law_folded" 2 p_law_folded :=
  def_ok F gm sc_law_folded hb rfl (fun cdv A outer s H hr => (sss_cons (ss_set 2 sc_law_folded.nd (ee_cty (cg_list .N) T.m_list (ea_cons (ee_sl .D (ev 0) eo_none (eo_some (ev 1))) ea_nil))) (sss_cons (ss_for (ei_enum T.m_enumerate (ea_cons (ee_sl .D (ev 0) (eo_some (ev 1)) (eo_some ei)) ea_nil)) (eg_tup (egs_cons (eg_name 3 sc_law_folded.nd) (egs_cons (eg_name 4 sc_law_folded.nd) egs_nil))) (sss_one (ss_asg (ee_op (og_add .D) (ee_ix (ev 2) (ee_op og_mod (ev 3) (ev 1))) (ee_op (og_mul .D) (ev 4) (ee_op (og_add .D) (ev 3) ei))) (eg_sub (ev 2) (ee_op og_mod (ev 3) (ev 1)))))) (sss_frz 2 (sss_one (ss_ret (ee_frz (ev 2)))))))) (does_of _ _ _ _)
theorem ok_law_same {f : Addr} {fd : FuncData} (T : Txt mg) (F : Fun K "_law_same" "_law_same" s_law_same f fd) (gm : mg "_law_same" = some (.ref f)) (hb : Binds K fd ["_law_found", "_law_due"] [])   : ∀ n : Nat, DefOk P w K mg base (1 + n) "_law_same" 2 (recφ 4 0 f_law_same n)
  | 0 => def_none F gm hb rfl
  | n + 1 => have D_law_same := ok_law_same T F gm hb   n
    have := def_ok F gm sc_law_same hb rfl (fun cdv A outer s H hr => (sss_cons (ss_if (et_val (ee_isi2 T.m_isinstance T.m_list T.m_tuple (ev 1))) (sss_cons (ss_if (et_bo (ew_or (et_not (et_val (ee_isi2 T.m_isinstance T.m_list T.m_tuple (ev 0)))) (ew_or1 (et_cmp (og_ne hr.room) (ee_isi T.m_isinstance T.m_list (ev 0)) (ee_isi T.m_isinstance T.m_list (ev 1)))))) (sss_one (ss_ret ebl)) sss_nil) (sss_one (ss_ret (ee_and (ee_cmp (og_eq hr.room) (ee_cb cg_len T.m_len (ea_cons (ev 0) ea_nil)) (ee_cb cg_len T.m_len (ea_cons (ev 1) ea_nil))) (ee_one (ee_cb cg_all T.m_all (ea_cons (ee_lcD .D [("_law_one", 2), ("_law_other", 3)] sc_law_same.nd (ej_zip T.m_zip (ea_cons (ev 0) (ea_cons (ev 1) ea_nil))) (blkOk_by (N := ["_law_found", "_law_due", "_law_one", "_law_other"]) (sc := defScope s_law_same) (scope := lcS (xk (xk (xS (sS (bdS s_law_same 0) 0 1)) 1) 1)) (own := [("_law_one", 2), ("_law_other", 3)]) (by decide +kernel)) (lct_tup 2 [2, 3]) (fun _ _ _ _ _ => pg_tup rfl (pgs_cons (pg_name (i := 2) sc_law_same.nd rfl (by first | exact Or.inl rfl | exact Or.inr rfl)) (pgs_cons (pg_name (i := 3) sc_law_same.nd rfl (by first | exact Or.inl rfl | exact Or.inr rfl)) pgs_nil))) (fun _ _ _ _ _ => ets_nil) (fun _ _ _ _ _ => (ee_call (D_law_same.mono (by first | omega | exact Nat.le_refl _ | (simp only [Nat.add_eq]; omega))) hr (ea_cons (ev 2) (ea_cons (ev 3) ea_nil))))) ea_nil))))))) sss_nil) (sss_cons (ss_if (et_bo (ew_or (et_cmp og_is (ev 1) eno) (ew_or1 (et_val (ee_isi T.m_isinstance T.m_str (ev 1)))))) (sss_one (ss_ret (ee_and (ee_cmp (og_eq hr.room) (ev 0) (ev 1)) (ee_one (ee_cmp (og_eq hr.room) (ee_isi T.m_isinstance T.m_str (ev 0)) (ee_isi T.m_isinstance T.m_str (ev 1))))))) sss_nil) (sss_one (ss_ret (ee_and (ee_isi T.m_isinstance T.m_int (ev 0)) (ee_and (ee_cmp (og_eq hr.room) (ee_isi T.m_isinstance T.m_bool (ev 0)) (ee_isi T.m_isinstance T.m_bool (ev 1))) (ee_one (ee_cmp (og_eq hr.room) (ev 0) (ev 1)))))))))) (does_of 4 2 0 (f_law_same (recφ 4 0 f_law_same n)))
    this
theorem ok_law_costs {f : Addr} {fd : FuncData} (T : Txt mg) (F : Fun K "_law_costs" "_law_costs" s_law_costs f fd) (gm : mg "_law_costs" = some (.ref f)) (hb : Binds K fd ["_law_box_here"] [])  (D_law_take : DefOk P w K mg base 1 "_law_take" 2 p_law_take) : DefOk P w K mg base 2 "_law_costs" 1 p_law_costs :=
  def_ok F gm sc_law_costs hb rfl (fun cdv A outer s H hr => (sss_cons (ss_set 1 sc_law_costs.nd (ee_call (D_law_take.mono (by first | omega | exact Nat.le_refl _ | (simp only [Nat.add_eq]; omega))) hr (ea_cons (ev 0) (ea_cons (ee_ix (ee_lst .D (ea_cons ei (ea_cons ei (ea_cons ei (ea_cons ei ea_nil))))) (ee_call (D_law_take.mono (by first | omega | exact Nat.le_refl _ | (simp only [Nat.add_eq]; omega))) hr (ea_cons (ev 0) (ea_cons ei ea_nil)))) ea_nil)))) (sss_cons (ss_set 2 sc_law_costs.nd (ee_op (og_add .D) (ev 1) (ee_call (D_law_take.mono (by first | omega | exact Nat.le_refl _ | (simp only [Nat.add_eq]; omega))) hr (ea_cons (ev 0) (ea_cons (ee_cb cg_min2 T.m_min (ea_cons ei (ea_cons (ee_op og_sub ei (ev 1)) ea_nil))) ea_nil))))) (sss_cons (ss_set 3 sc_law_costs.nd (ee_ix (ee_lst .D (ea_cons ei (ea_cons ei (ea_cons ei (ea_cons (ee_op (og_add .D) (ee_op og_pow ei ei) ei) ea_nil))))) (ee_call (D_law_take.mono (by first | omega | exact Nat.le_refl _ | (simp only [Nat.add_eq]; omega))) hr (ea_cons (ev 0) (ea_cons ei ea_nil))))) (sss_cons (ss_setLc .N 6 [("_law_row", 4)] sc_law_costs.nd (ei_r1 T.m_range (ea_cons (ev 1) ea_nil)) (blkOk_by (N := ["_law_box_here", "_law_rows", "_law_columns", "_law_most", "_law_row", "_law_k", "_law_found"]) (sc := defScope s_law_costs) (scope := lcS (xS (bdS s_law_costs 3))) (own := [("_law_row", 4)]) (by decide +kernel)) (.name 4 (by decide)) (fun _ _ _ _ _ => pg_name (i := 4) sc_law_costs.nd rfl (by first | exact Or.inl rfl | exact Or.inr rfl)) (fun _ _ _ _ _ => ets_nil) (fun _ _ _ _ _ => (ee_lc .D [("_law_k", 5)] sc_law_costs.nd (ei_r1 T.m_range (ea_cons (ev 2) ea_nil)) (blkOk_by (N := ["_law_box_here", "_law_rows", "_law_columns", "_law_most", "_law_row", "_law_k", "_law_found"]) (sc := (rlS (lcS (xS (bdS s_law_costs 3))) (defScope s_law_costs))) (scope := lcS (xk (xS (bdS s_law_costs 3)) 0)) (own := [("_law_k", 5)]) (by decide +kernel)) (.name 5 (by decide)) (fun _ _ _ _ _ => pg_name (i := 5) sc_law_costs.nd rfl (by first | exact Or.inl rfl | exact Or.inr rfl)) (fun _ _ _ _ _ => ets_nil) (fun _ _ _ _ _ => (ee_call (D_law_take.mono (by first | omega | exact Nat.le_refl _ | (simp only [Nat.add_eq]; omega))) hr (ea_cons (ev 0) (ea_cons (ev 3) ea_nil))))))) (sss_cons (ss_if (et_bo (ew_and (et_cmp og_gtI (ev 1) ei) (ew_and1 (et_cmp (og_eq hr.room) (ee_call (D_law_take.mono (by first | omega | exact Nat.le_refl _ | (simp only [Nat.add_eq]; omega))) hr (ea_cons (ev 0) (ea_cons ei ea_nil))) ei)))) (sss_one (ss_asg (ee_cty (cg_list .D) T.m_list (ea_cons (ee_ix (ev 6) ei) ea_nil)) (eg_sub (ev 6) (ee_neg ei)))) sss_nil) (sss_frz 6 (sss_one (ss_ret (ee_frz (ev 6))))))))))) (does_of _ _ _ _)
theorem ok_law_least_sum {f : Addr} {fd : FuncData} (T : Txt mg) (F : Fun K "_law_least_sum" "_law_least_sum" s_law_least_sum f fd) (gm : mg "_law_least_sum" = some (.ref f)) (hb : Binds K fd ["_law_costs_here"] [])   : DefOk P w K mg base 1 "_law_least_sum" 1 p_law_least_sum :=
  def_ok F gm sc_law_least_sum hb rfl (fun cdv A outer s H hr => (sss_cons (ss_par 1 2 sc_law_least_sum.nd (ea_cons (ee_lst .N (ea_cons ei ea_nil)) (ea_cons (ee_disp (eps_cons ei ei eps_nil)) ea_nil))) (sss_cons (ss_for (ei_r1 T.m_range (ea_cons ei ea_nil)) (eg_name 3 sc_law_least_sum.nd) (sss_one (ss_expr (ee_append (ev 1) (ea_cons (ee_op (og_mul .D) ei (ee_ix (ev 1) (ee_neg ei))) ea_nil))))) (sss_frz 1 (sss_cons (ss_for (ei_seq (ev 0)) (eg_name 4 sc_law_least_sum.nd) (sss_cons (ss_set 5 sc_law_least_sum.nd ee_dk) (sss_lock 2 (sss_cons (ss_for (ei_dki (ev 2)) (eg_tup (egs_cons (eg_name 6 sc_law_least_sum.nd) (egs_cons (eg_name 7 sc_law_least_sum.nd) egs_nil))) (sss_one (ss_for (ei_enum T.m_enumerate (ea_cons (ev 4) ea_nil)) (eg_tup (egs_cons (eg_name 3 sc_law_least_sum.nd) (egs_cons (eg_name 8 sc_law_least_sum.nd) egs_nil))) (sss_one (ss_if (et_cmp (og_eq hr.room) (ee_op og_mod (ee_op og_div (ev 6) (ee_ix (ev 1) (ev 3))) ei) ei) (sss_cons (ss_set 9 sc_law_least_sum.nd (ee_op (og_add .D) (ev 6) (ee_ix (ev 1) (ev 3)))) (sss_one (ss_dp hr (ev 5) (ev 9) (ee_cb cg_min2 T.m_min (ea_cons (ee_dgt hr (ev 5) (ev 9) (ee_op (og_add .D) (ev 7) (ev 8))) (ea_cons (ee_op (og_add .D) (ev 7) (ev 8)) ea_nil)))))) sss_nil))))) (sss_one (ss_set 2 sc_law_least_sum.nd (ev 5))))))) (sss_one (ss_ret (ee_cb (cg_minL (hu65 hr)) T.m_min (ea_cons (ee_listVals .D T.m_list (ev 2)) ea_nil))))))))) (does_of _ _ _ _)
theorem ok_law_is_number {f : Addr} {fd : FuncData} (T : Txt mg) (F : Fun K "_law_is_number" "_law_is_number" s_law_is_number f fd) (gm : mg "_law_is_number" = some (.ref f)) (hb : Binds K fd ["_law_thing"] [])   : DefOk P w K mg base 1 "_law_is_number" 1 p_law_is_number :=
  def_ok F gm sc_law_is_number hb rfl (fun cdv A outer s H hr => (sss_one (ss_ret (ee_and (ee_isi T.m_isinstance T.m_int (ev 0)) (ee_one (ee_not (ee_isi T.m_isinstance T.m_bool (ev 0)))))))) (does_of _ _ _ _)
theorem ok_law_are_numbers {f : Addr} {fd : FuncData} (T : Txt mg) (F : Fun K "_law_are_numbers" "_law_are_numbers" s_law_are_numbers f fd) (gm : mg "_law_are_numbers" = some (.ref f)) (hb : Binds K fd ["_law_thing", "_law_many"] [])  (D_law_is_number : DefOk P w K mg base 1 "_law_is_number" 1 p_law_is_number) : DefOk P w K mg base 2 "_law_are_numbers" 2 p_law_are_numbers :=
  def_ok F gm sc_law_are_numbers hb rfl (fun cdv A outer s H hr => (sss_one (ss_ret (ee_and (ee_isi T.m_isinstance T.m_list (ev 0)) (ee_and (ee_cmp (og_eq hr.room) (ee_cb cg_len T.m_len (ea_cons (ev 0) ea_nil)) (ev 1)) (ee_one (ee_cb cg_all T.m_all (ea_cons (ee_lcD .D [("_law_one", 2)] sc_law_are_numbers.nd (ej_seq (ev 0)) (blkOk_by (N := ["_law_thing", "_law_many", "_law_one"]) (sc := defScope s_law_are_numbers) (scope := lcS (xk (xk (xS (bdS s_law_are_numbers 0)) 2) 1)) (own := [("_law_one", 2)]) (by decide +kernel)) (.name 2 (by decide)) (fun _ _ _ _ _ => pg_name (i := 2) sc_law_are_numbers.nd rfl (by first | exact Or.inl rfl | exact Or.inr rfl)) (fun _ _ _ _ _ => ets_nil) (fun _ _ _ _ _ => (ee_call (D_law_is_number.mono (by first | omega | exact Nat.le_refl _ | (simp only [Nat.add_eq]; omega))) hr (ea_cons (ev 2) ea_nil)))) ea_nil)))))))) (does_of _ _ _ _)
theorem ok_law_right {f : Addr} {fd : FuncData} (T : Txt mg) (F : Fun K "_law_right" "_law_right" s_law_right f fd) (gm : mg "_law_right" = some (.ref f)) (hb : Binds K fd ["_law_box_here"] [])  (D_law_costs : DefOk P w K mg base 2 "_law_costs" 1 p_law_costs) (D_matched_slots : DefOk P w K mg base 5 "matched_slots" 1 p_matched_slots) (D_law_are_numbers : DefOk P w K mg base 2 "_law_are_numbers" 2 p_law_are_numbers) (D_law_same : DefOk P w K mg base 13 "_law_same" 2 p_law_same) (D_law_least_sum : DefOk P w K mg base 1 "_law_least_sum" 1 p_law_least_sum) : DefOk P w K mg base 14 "_law_right" 1 p_law_right :=
  def_ok F gm sc_law_right hb rfl (fun cdv A outer s H hr => (sss_cons (ss_for (ei_r1 T.m_range (ea_cons ei ea_nil)) (eg_name 1 sc_law_right.nd) (sss_cons (ss_set 2 sc_law_right.nd (ee_call (D_law_costs.mono (by first | omega | exact Nat.le_refl _ | (simp only [Nat.add_eq]; omega))) hr (ea_cons (ev 0) ea_nil))) (sss_cons (ss_par 3 4 sc_law_right.nd (ea_cons (ee_cty (cg_strA hr) T.m_str (ea_cons (ev 2) ea_nil)) (ea_cons (ee_call (D_matched_slots.mono (by first | omega | exact Nat.le_refl _ | (simp only [Nat.add_eq]; omega))) hr (ea_cons (ev 2) ea_nil)) ea_nil))) (sss_cons (ss_if (et_bo (ew_or (et_not (et_val (ee_isi T.m_isinstance T.m_tuple (ev 4)))) (ew_or (et_cmp (og_ne hr.room) (ee_cb cg_len T.m_len (ea_cons (ev 4) ea_nil)) ei) (ew_or1 (et_not (et_val (ee_call (D_law_are_numbers.mono (by first | omega | exact Nat.le_refl _ | (simp only [Nat.add_eq]; omega))) hr (ea_cons (ee_ix (ev 4) ei) (ea_cons (ee_cb cg_len T.m_len (ea_cons (ev 2) ea_nil)) ea_nil))))))))) (sss_one (ss_ret ebl)) sss_nil) (sss_cons (ss_set 5 sc_law_right.nd (ee_ix (ev 4) ei)) (sss_cons (ss_if (et_bo (ew_or (et_not (et_val (ee_cb cg_all T.m_all (ea_cons (ee_lcD .D [("_law_one", 6)] sc_law_right.nd (ej_seq (ev 5)) (blkOk_by (N := ["_law_box_here", "_law_turn", "_law_costs_here", "_law_kept", "_law_found", "_law_columns", "_law_one", "_law_row", "_law_text"]) (sc := defScope s_law_right) (scope := lcS (xk (xk (xk (xS (sS (bdS s_law_right 0) 0 4)) 0) 0) 1)) (own := [("_law_one", 6)]) (by decide +kernel)) (.name 6 (by decide)) (fun _ _ _ _ _ => pg_name (i := 6) sc_law_right.nd rfl (by first | exact Or.inl rfl | exact Or.inr rfl)) (fun _ _ _ _ _ => ets_nil) (fun _ _ _ _ _ => (ee_chain og_le og_ltI ei (ev 6) (ee_cb cg_len T.m_len (ea_cons (ee_ix (ev 2) ei) ea_nil))))) ea_nil)))) (ew_or1 (et_cmp (og_ne hr.room) (ee_lenS T.m_len T.m_set (ev 5)) (ee_cb cg_len T.m_len (ea_cons (ev 5) ea_nil)))))) (sss_one (ss_ret ebl)) sss_nil) (sss_cons (ss_if (et_not (et_val (ee_call (D_law_same.mono (by first | omega | exact Nat.le_refl _ | (simp only [Nat.add_eq]; omega))) hr (ea_cons (ee_ix (ev 4) ei) (ea_cons (ee_cb cg_sum T.m_sum (ea_cons (ee_lcD .D [("_law_row", 7), ("_law_one", 6)] sc_law_right.nd (ej_zip T.m_zip (ea_cons (ev 2) (ea_cons (ev 5) ea_nil))) (blkOk_by (N := ["_law_box_here", "_law_turn", "_law_costs_here", "_law_kept", "_law_found", "_law_columns", "_law_one", "_law_row", "_law_text"]) (sc := defScope s_law_right) (scope := lcS (xk (xk (xk (xS (sS (bdS s_law_right 0) 0 5)) 0) 2) 1)) (own := [("_law_row", 7), ("_law_one", 6)]) (by decide +kernel)) (lct_tup 2 [7, 6]) (fun _ _ _ _ _ => pg_tup rfl (pgs_cons (pg_name (i := 7) sc_law_right.nd rfl (by first | exact Or.inl rfl | exact Or.inr rfl)) (pgs_cons (pg_name (i := 6) sc_law_right.nd rfl (by first | exact Or.inl rfl | exact Or.inr rfl)) pgs_nil))) (fun _ _ _ _ _ => ets_nil) (fun _ _ _ _ _ => (ee_ix (ev 7) (ev 6)))) ea_nil)) ea_nil))))) (sss_one (ss_ret ebl)) sss_nil) (sss_cons (ss_if (et_cmp (og_ne hr.room) (ee_ix (ev 4) ei) (ee_call (D_law_least_sum.mono (by first | omega | exact Nat.le_refl _ | (simp only [Nat.add_eq]; omega))) hr (ea_cons (ev 2) ea_nil))) (sss_one (ss_ret ebl)) sss_nil) (sss_cons (ss_set 8 sc_law_right.nd (ee_cty (cg_strA hr) T.m_str (ea_cons (ev 4) ea_nil))) (sss_cons (ss_expr (ee_append (ev 5) (ea_cons ei ea_nil))) (sss_frz 5 (sss_one (ss_if (et_bo (ew_or (et_cmp (og_ne hr.room) (ee_cty (cg_strA hr) T.m_str (ea_cons (ee_call (D_matched_slots.mono (by first | omega | exact Nat.le_refl _ | (simp only [Nat.add_eq]; omega))) hr (ea_cons (ev 2) ea_nil)) ea_nil)) (ev 8)) (ew_or1 (et_cmp (og_ne hr.room) (ee_cty (cg_strA hr) T.m_str (ea_cons (ev 2) ea_nil)) (ev 3))))) (sss_one (ss_ret ebl)) sss_nil))))))))))))) (sss_one (ss_ret ebl)))) (does_of _ _ _ _)
theorem ok_law {f : Addr} {fd : FuncData} (T : Txt mg) (F : Fun K "law" "law" s_law f fd) (gm : mg "law" = some (.ref f)) (hb : Binds K fd ["_law_script"] [])  (D_law_folded : DefOk P w K mg base 1 "_law_folded" 2 p_law_folded) (D_law_right : DefOk P w K mg base 14 "_law_right" 1 p_law_right) (D_law_box : DefOk P w K mg base 1 "_law_box" 2 p_law_box) : DefOk P w K mg base 15 "law" 1 p_law :=
  def_ok F gm sc_law hb rfl (fun cdv A outer s H hr => (sss_cons (ss_set 1 sc_law.nd (ee_call (D_law_folded.mono (by first | omega | exact Nat.le_refl _ | (simp only [Nat.add_eq]; omega))) hr (ea_cons (ev 0) (ea_cons ei ea_nil)))) (sss_one (ss_ret (ee_cb cg_all T.m_all (ea_cons (ee_lc .D [("_law_k", 2)] sc_law.nd (ei_r1 T.m_range (ea_cons (ee_cb cg_max2 T.m_max (ea_cons ei (ea_cons (ee_cb cg_len T.m_len (ea_cons (ev 1) ea_nil)) ea_nil))) ea_nil)) (blkOk_by (N := ["_law_script", "_law_cells", "_law_k"]) (sc := defScope s_law) (scope := lcS (xk (xS (bdS s_law 1)) 1)) (own := [("_law_k", 2)]) (by decide +kernel)) (.name 2 (by decide)) (fun _ _ _ _ _ => pg_name (i := 2) sc_law.nd rfl (by first | exact Or.inl rfl | exact Or.inr rfl)) (fun _ _ _ _ _ => ets_nil) (fun _ _ _ _ _ => (ee_call (D_law_right.mono (by first | omega | exact Nat.le_refl _ | (simp only [Nat.add_eq]; omega))) hr (ea_cons (ee_call (D_law_box.mono (by first | omega | exact Nat.le_refl _ | (simp only [Nat.add_eq]; omega))) hr (ea_cons (ev 1) (ea_cons (ev 2) ea_nil))) ea_nil)))) ea_nil)))))) (does_of _ _ _ _)
theorem all_ok {h : Heap} (X : K.In h) (G : h.Ns mainGlobals mg)
    {a0 a1 a2 a3 a4 a5 a6 a7 a8 a9 a10 a11 a12 a13 a14 a15 a16 a17 a18 a19 : Addr}
    {od0 an0 od1 an1 od2 an2 od3 an3 od4 an4 od5 an5 od6 an6 od7 an7 od8 an8 od9 an9 od10 an10 od11 an11 od12 an12 od13 an13 od14 an14 od15 an15 od16 an16 od17 an17 od18 an18 od19 an19 : Option Addr}
    {sl0 sl1 sl2 sl3 sl4 sl5 sl6 sl7 sl8 sl9 sl10 sl11 sl12 sl13 sl14 sl15 sl16 sl17 sl18 sl19 : Array (Option Value)}
    {oc0 kv0 dc0 pm0 cd0 ct0 oc1 kv1 dc1 pm1 cd1 ct1 oc2 kv2 dc2 pm2 cd2 ct2 oc3 kv3 dc3 pm3 cd3 ct3 oc4 kv4 dc4 pm4 cd4 ct4 oc5 kv5 dc5 pm5 cd5 ct5 oc6 kv6 dc6 pm6 cd6 ct6 oc7 kv7 dc7 pm7 cd7 ct7 oc8 kv8 dc8 pm8 cd8 ct8 oc9 kv9 dc9 pm9 cd9 ct9 oc10 kv10 dc10 pm10 cd10 ct10 oc11 kv11 dc11 pm11 cd11 ct11 oc12 kv12 dc12 pm12 cd12 ct12 oc13 kv13 dc13 pm13 cd13 ct13 oc14 kv14 dc14 pm14 cd14 ct14 oc15 kv15 dc15 pm15 cd15 ct15 oc16 kv16 dc16 pm16 cd16 ct16 oc17 kv17 dc17 pm17 cd17 ct17 oc18 kv18 dc18 pm18 cd18 ct18 oc19 kv19 dc19 pm19 cd19 ct19 : Value}
    {C_Matching : Addr}
    (aC_Matching : PySem.W.nsIn K mainGlobals "Matching" = some (some (.ref C_Matching))) (pg_Matching : PySem.W.plainGet K C_Matching Str.empty = true) (hd_Matching : PySem.W.hasDictIn K C_Matching = true) (po_Matching : PySem.W.plainOver K C_Matching = true) (sa_Matching : PySem.W.findIn K (.ref C_Matching) "__setattr__" = some (some (.builtin "object.__setattr__"))) (mk_Matching : PySem.W.makesIn K C_Matching = true) (kc_Matching : PySem.W.keepIn K (.ref C_Matching) = true)
    (nf_Matching_costs : PySem.W.findIn K (.ref C_Matching) "costs" = some none)
    (nf_Matching_many : PySem.W.findIn K (.ref C_Matching) "many" = some none)
    (nf_Matching_row_numbers : PySem.W.findIn K (.ref C_Matching) "row_numbers" = some none)
    (nf_Matching_column_numbers : PySem.W.findIn K (.ref C_Matching) "column_numbers" = some none)
    (nf_Matching_owners : PySem.W.findIn K (.ref C_Matching) "owners" = some none)
    (g0 : PySem.W.findIn K (.ref C_Matching) "__init__" = some (some (.ref a0))) (i0 : PySem.W.isFn K (.ref a0) = true) (l0 : K.lookup a0 = some ⟨oc0, od0, .func (PySem.W.fnOf "__init__" "Matching.__init__" (defArgs s_Matching___init__) (defBody s_Matching___init__) (defScope s_Matching___init__) .none kv0 dc0 pm0 an0 cd0 ct0), sl0⟩) (c0 : PySem.W.codeIn K cd0 "Matching.__init__" = true) (k0 : PySem.W.keepIn K (.ref a0) = true)
    (g1 : PySem.W.findIn K (.ref C_Matching) "slack_at" = some (some (.ref a1))) (i1 : PySem.W.isFn K (.ref a1) = true) (l1 : K.lookup a1 = some ⟨oc1, od1, .func (PySem.W.fnOf "slack_at" "Matching.slack_at" (defArgs s_Matching_slack_at) (defBody s_Matching_slack_at) (defScope s_Matching_slack_at) .none kv1 dc1 pm1 an1 cd1 ct1), sl1⟩) (c1 : PySem.W.codeIn K cd1 "Matching.slack_at" = true) (k1 : PySem.W.keepIn K (.ref a1) = true)
    (g2 : PySem.W.findIn K (.ref C_Matching) "raise_by" = some (some (.ref a2))) (i2 : PySem.W.isFn K (.ref a2) = true) (l2 : K.lookup a2 = some ⟨oc2, od2, .func (PySem.W.fnOf "raise_by" "Matching.raise_by" (defArgs s_Matching_raise_by) (defBody s_Matching_raise_by) (defScope s_Matching_raise_by) .none kv2 dc2 pm2 an2 cd2 ct2), sl2⟩) (c2 : PySem.W.codeIn K cd2 "Matching.raise_by" = true) (k2 : PySem.W.keepIn K (.ref a2) = true)
    (g3 : PySem.W.findIn K (.ref C_Matching) "best_free" = some (some (.ref a3))) (i3 : PySem.W.isFn K (.ref a3) = true) (l3 : K.lookup a3 = some ⟨oc3, od3, .func (PySem.W.fnOf "best_free" "Matching.best_free" (defArgs s_Matching_best_free) (defBody s_Matching_best_free) (defScope s_Matching_best_free) .none kv3 dc3 pm3 an3 cd3 ct3), sl3⟩) (c3 : PySem.W.codeIn K cd3 "Matching.best_free" = true) (k3 : PySem.W.keepIn K (.ref a3) = true)
    (g4 : PySem.W.findIn K (.ref C_Matching) "column_of" = some (some (.ref a4))) (i4 : PySem.W.isFn K (.ref a4) = true) (l4 : K.lookup a4 = some ⟨oc4, od4, .func (PySem.W.fnOf "column_of" "Matching.column_of" (defArgs s_Matching_column_of) (defBody s_Matching_column_of) (defScope s_Matching_column_of) .none kv4 dc4 pm4 an4 cd4 ct4), sl4⟩) (c4 : PySem.W.codeIn K cd4 "Matching.column_of" = true) (k4 : PySem.W.keepIn K (.ref a4) = true)
    (g5 : PySem.W.findIn K (.ref C_Matching) "give_back" = some (some (.ref a5))) (i5 : PySem.W.isFn K (.ref a5) = true) (l5 : K.lookup a5 = some ⟨oc5, od5, .func (PySem.W.fnOf "give_back" "Matching.give_back" (defArgs s_Matching_give_back) (defBody s_Matching_give_back) (defScope s_Matching_give_back) .none kv5 dc5 pm5 an5 cd5 ct5), sl5⟩) (c5 : PySem.W.codeIn K cd5 "Matching.give_back" = true) (k5 : PySem.W.keepIn K (.ref a5) = true)
    (g6 : PySem.W.findIn K (.ref C_Matching) "grow_by" = some (some (.ref a6))) (i6 : PySem.W.isFn K (.ref a6) = true) (l6 : K.lookup a6 = some ⟨oc6, od6, .func (PySem.W.fnOf "grow_by" "Matching.grow_by" (defArgs s_Matching_grow_by) (defBody s_Matching_grow_by) (defScope s_Matching_grow_by) .none kv6 dc6 pm6 an6 cd6 ct6), sl6⟩) (c6 : PySem.W.codeIn K cd6 "Matching.grow_by" = true) (k6 : PySem.W.keepIn K (.ref a6) = true)
    (g7 : PySem.W.nsIn K mainGlobals "full_matching" = some (some (.ref a7))) (l7 : K.lookup a7 = some ⟨oc7, od7, .func (PySem.W.fnOf "full_matching" "full_matching" (defArgs s_full_matching) (defBody s_full_matching) (defScope s_full_matching) .none kv7 dc7 pm7 an7 cd7 ct7), sl7⟩) (c7 : PySem.W.codeIn K cd7 "full_matching" = true) (k7 : PySem.W.keepIn K (.ref a7) = true)
    (g8 : PySem.W.nsIn K mainGlobals "sum_at" = some (some (.ref a8))) (l8 : K.lookup a8 = some ⟨oc8, od8, .func (PySem.W.fnOf "sum_at" "sum_at" (defArgs s_sum_at) (defBody s_sum_at) (defScope s_sum_at) .none kv8 dc8 pm8 an8 cd8 ct8), sl8⟩) (c8 : PySem.W.codeIn K cd8 "sum_at" = true) (k8 : PySem.W.keepIn K (.ref a8) = true)
    (g9 : PySem.W.nsIn K mainGlobals "matched_slots" = some (some (.ref a9))) (l9 : K.lookup a9 = some ⟨oc9, od9, .func (PySem.W.fnOf "matched_slots" "matched_slots" (defArgs s_matched_slots) (defBody s_matched_slots) (defScope s_matched_slots) .none kv9 dc9 pm9 an9 cd9 ct9), sl9⟩) (c9 : PySem.W.codeIn K cd9 "matched_slots" = true) (k9 : PySem.W.keepIn K (.ref a9) = true)
    (g10 : PySem.W.nsIn K mainGlobals "_law_box" = some (some (.ref a10))) (l10 : K.lookup a10 = some ⟨oc10, od10, .func (PySem.W.fnOf "_law_box" "_law_box" (defArgs s_law_box) (defBody s_law_box) (defScope s_law_box) .none kv10 dc10 pm10 an10 cd10 ct10), sl10⟩) (c10 : PySem.W.codeIn K cd10 "_law_box" = true) (k10 : PySem.W.keepIn K (.ref a10) = true)
    (g11 : PySem.W.nsIn K mainGlobals "_law_take" = some (some (.ref a11))) (l11 : K.lookup a11 = some ⟨oc11, od11, .func (PySem.W.fnOf "_law_take" "_law_take" (defArgs s_law_take) (defBody s_law_take) (defScope s_law_take) .none kv11 dc11 pm11 an11 cd11 ct11), sl11⟩) (c11 : PySem.W.codeIn K cd11 "_law_take" = true) (k11 : PySem.W.keepIn K (.ref a11) = true)
    (g12 : PySem.W.nsIn K mainGlobals "_law_folded" = some (some (.ref a12))) (l12 : K.lookup a12 = some ⟨oc12, od12, .func (PySem.W.fnOf "_law_folded" "_law_folded" (defArgs s_law_folded) (defBody s_law_folded) (defScope s_law_folded) .none kv12 dc12 pm12 an12 cd12 ct12), sl12⟩) (c12 : PySem.W.codeIn K cd12 "_law_folded" = true) (k12 : PySem.W.keepIn K (.ref a12) = true)
    (g13 : PySem.W.nsIn K mainGlobals "_law_same" = some (some (.ref a13))) (l13 : K.lookup a13 = some ⟨oc13, od13, .func (PySem.W.fnOf "_law_same" "_law_same" (defArgs s_law_same) (defBody s_law_same) (defScope s_law_same) .none kv13 dc13 pm13 an13 cd13 ct13), sl13⟩) (c13 : PySem.W.codeIn K cd13 "_law_same" = true) (k13 : PySem.W.keepIn K (.ref a13) = true)
    (g14 : PySem.W.nsIn K mainGlobals "_law_costs" = some (some (.ref a14))) (l14 : K.lookup a14 = some ⟨oc14, od14, .func (PySem.W.fnOf "_law_costs" "_law_costs" (defArgs s_law_costs) (defBody s_law_costs) (defScope s_law_costs) .none kv14 dc14 pm14 an14 cd14 ct14), sl14⟩) (c14 : PySem.W.codeIn K cd14 "_law_costs" = true) (k14 : PySem.W.keepIn K (.ref a14) = true)
    (g15 : PySem.W.nsIn K mainGlobals "_law_least_sum" = some (some (.ref a15))) (l15 : K.lookup a15 = some ⟨oc15, od15, .func (PySem.W.fnOf "_law_least_sum" "_law_least_sum" (defArgs s_law_least_sum) (defBody s_law_least_sum) (defScope s_law_least_sum) .none kv15 dc15 pm15 an15 cd15 ct15), sl15⟩) (c15 : PySem.W.codeIn K cd15 "_law_least_sum" = true) (k15 : PySem.W.keepIn K (.ref a15) = true)
    (g16 : PySem.W.nsIn K mainGlobals "_law_is_number" = some (some (.ref a16))) (l16 : K.lookup a16 = some ⟨oc16, od16, .func (PySem.W.fnOf "_law_is_number" "_law_is_number" (defArgs s_law_is_number) (defBody s_law_is_number) (defScope s_law_is_number) .none kv16 dc16 pm16 an16 cd16 ct16), sl16⟩) (c16 : PySem.W.codeIn K cd16 "_law_is_number" = true) (k16 : PySem.W.keepIn K (.ref a16) = true)
    (g17 : PySem.W.nsIn K mainGlobals "_law_are_numbers" = some (some (.ref a17))) (l17 : K.lookup a17 = some ⟨oc17, od17, .func (PySem.W.fnOf "_law_are_numbers" "_law_are_numbers" (defArgs s_law_are_numbers) (defBody s_law_are_numbers) (defScope s_law_are_numbers) .none kv17 dc17 pm17 an17 cd17 ct17), sl17⟩) (c17 : PySem.W.codeIn K cd17 "_law_are_numbers" = true) (k17 : PySem.W.keepIn K (.ref a17) = true)
    (g18 : PySem.W.nsIn K mainGlobals "_law_right" = some (some (.ref a18))) (l18 : K.lookup a18 = some ⟨oc18, od18, .func (PySem.W.fnOf "_law_right" "_law_right" (defArgs s_law_right) (defBody s_law_right) (defScope s_law_right) .none kv18 dc18 pm18 an18 cd18 ct18), sl18⟩) (c18 : PySem.W.codeIn K cd18 "_law_right" = true) (k18 : PySem.W.keepIn K (.ref a18) = true)
    (g19 : PySem.W.nsIn K mainGlobals "law" = some (some (.ref a19))) (l19 : K.lookup a19 = some ⟨oc19, od19, .func (PySem.W.fnOf "law" "law" (defArgs s_law) (defBody s_law) (defScope s_law) .none kv19 dc19 pm19 an19 cd19 ct19), sl19⟩) (c19 : PySem.W.codeIn K cd19 "law" = true) (k19 : PySem.W.keepIn K (.ref a19) = true)
    (z_abs : PySem.W.nsIn K mainGlobals "abs" = some none)
    (z_all : PySem.W.nsIn K mainGlobals "all" = some none)
    (z_bool : PySem.W.nsIn K mainGlobals "bool" = some none)
    (z_divmod : PySem.W.nsIn K mainGlobals "divmod" = some none)
    (z_enumerate : PySem.W.nsIn K mainGlobals "enumerate" = some none)
    (z_int : PySem.W.nsIn K mainGlobals "int" = some none)
    (z_isinstance : PySem.W.nsIn K mainGlobals "isinstance" = some none)
    (z_len : PySem.W.nsIn K mainGlobals "len" = some none)
    (z_list : PySem.W.nsIn K mainGlobals "list" = some none)
    (z_max : PySem.W.nsIn K mainGlobals "max" = some none)
    (z_min : PySem.W.nsIn K mainGlobals "min" = some none)
    (z_range : PySem.W.nsIn K mainGlobals "range" = some none)
    (z_set : PySem.W.nsIn K mainGlobals "set" = some none)
    (z_str : PySem.W.nsIn K mainGlobals "str" = some none)
    (z_sum : PySem.W.nsIn K mainGlobals "sum" = some none)
    (z_tuple : PySem.W.nsIn K mainGlobals "tuple" = some none)
    (z_zip : PySem.W.nsIn K mainGlobals "zip" = some none)
    : DefOk P w K mg base 15 "law" 1 p_law := by
  have T : Txt mg := ⟨PySem.W.mg_none_of X G z_abs, PySem.W.mg_none_of X G z_all, PySem.W.mg_none_of X G z_bool, PySem.W.mg_none_of X G z_divmod, PySem.W.mg_none_of X G z_enumerate, PySem.W.mg_none_of X G z_int, PySem.W.mg_none_of X G z_isinstance, PySem.W.mg_none_of X G z_len, PySem.W.mg_none_of X G z_list, PySem.W.mg_none_of X G z_max, PySem.W.mg_none_of X G z_min, PySem.W.mg_none_of X G z_range, PySem.W.mg_none_of X G z_set, PySem.W.mg_none_of X G z_str, PySem.W.mg_none_of X G z_sum, PySem.W.mg_none_of X G z_tuple, PySem.W.mg_none_of X G z_zip⟩
  have cc_Matching : ClsQ K C_Matching "Matching" ["costs", "many", "row_numbers", "column_numbers", "owners"] := ⟨aC_Matching, ⟨pg_Matching, hd_Matching, po_Matching, sa_Matching⟩, fun f hf => by
    simp only [List.mem_cons, List.not_mem_nil, or_false] at hf
    rcases hf with rfl | rfl | rfl | rfl | rfl
    · exact nf_Matching_costs
    · exact nf_Matching_many
    · exact nf_Matching_row_numbers
    · exact nf_Matching_column_numbers
    · exact nf_Matching_owners
    ⟩
  have F0 := fun_mk (st := s_Matching___init__) l0 c0 k0
  have b0 := F0.binds (ps := ["self", "costs"]) fun _ _ _ _ _ _ us hl => match us, hl with | [_, _], _ => rfl
  have D_Matching___init__ : MakOk P w K mg base 1 C_Matching "Matching" 2 p_Matching___init__ := ok_Matching___init__ T cc_Matching F0 ⟨mk_Matching, g0, i0, kc_Matching⟩ (PySem.W.mg_of X G aC_Matching) aC_Matching b0 
  have F1 := fun_mk (st := s_Matching_slack_at) l1 c1 k1
  have b1 := F1.binds (ps := ["self", "row", "column"]) fun _ _ _ _ _ _ us hl => match us, hl with | [_, _, _], _ => rfl
  have D_Matching_slack_at : MetOk P w K mg base 1 C_Matching "slack_at" 3 p_Matching_slack_at := ok_Matching_slack_at T cc_Matching F1 ⟨g1, i1, k1⟩ b1 
  have F2 := fun_mk (st := s_Matching_raise_by) l2 c2 k2
  have b2 := F2.binds (ps := ["self", "some", "met", "rows"]) fun _ _ _ _ _ _ us hl => match us, hl with | [_, _, _, _], _ => rfl
  have D_Matching_raise_by : MetOk P w K mg base 1 C_Matching "raise_by" 4 p_Matching_raise_by := ok_Matching_raise_by T cc_Matching F2 ⟨g2, i2, k2⟩ b2 
  have F3 := fun_mk (st := s_Matching_best_free) l3 c3 k3
  have b3 := F3.binds (ps := ["self", "rows", "met"]) fun _ _ _ _ _ _ us hl => match us, hl with | [_, _, _], _ => rfl
  have D_Matching_best_free : MetOk P w K mg base 2 C_Matching "best_free" 3 p_Matching_best_free := ok_Matching_best_free T cc_Matching F3 ⟨g3, i3, k3⟩ b3 D_Matching_slack_at
  have F4 := fun_mk (st := s_Matching_column_of) l4 c4 k4
  have b4 := F4.binds (ps := ["self", "row"]) fun _ _ _ _ _ _ us hl => match us, hl with | [_, _], _ => rfl
  have D_Matching_column_of : MetOk P w K mg base 1 C_Matching "column_of" 2 p_Matching_column_of := ok_Matching_column_of T cc_Matching F4 ⟨g4, i4, k4⟩ b4 
  have F5 := fun_mk (st := s_Matching_give_back) l5 c5 k5
  have b5 := F5.binds (ps := ["self", "at", "came", "row"]) fun _ _ _ _ _ _ us hl => match us, hl with | [_, _, _, _], _ => rfl
  have D_Matching_give_back : MetOk P w K mg base 2 C_Matching "give_back" 4 p_Matching_give_back := ok_Matching_give_back T cc_Matching F5 ⟨g5, i5, k5⟩ b5 D_Matching_column_of
  have F6 := fun_mk (st := s_Matching_grow_by) l6 c6 k6
  have b6 := F6.binds (ps := ["self", "row"]) fun _ _ _ _ _ _ us hl => match us, hl with | [_, _], _ => rfl
  have D_Matching_grow_by : MetOk P w K mg base 3 C_Matching "grow_by" 2 p_Matching_grow_by := ok_Matching_grow_by T cc_Matching F6 ⟨g6, i6, k6⟩ b6 D_Matching_best_free D_Matching_raise_by D_Matching_give_back
  have F7 := fun_mk (st := s_full_matching) l7 c7 k7
  have b7 := F7.binds (ps := ["costs"]) fun _ _ _ _ _ _ us hl => match us, hl with | [_], _ => rfl
  have D_full_matching : DefOk P w K mg base 4 "full_matching" 1 p_full_matching := ok_full_matching T F7 (PySem.W.mg_of X G g7) b7 cc_Matching D_Matching___init__ D_Matching_grow_by
  have F8 := fun_mk (st := s_sum_at) l8 c8 k8
  have b8 := F8.binds (ps := ["costs", "columns"]) fun _ _ _ _ _ _ us hl => match us, hl with | [_, _], _ => rfl
  have D_sum_at : DefOk P w K mg base 1 "sum_at" 2 p_sum_at := ok_sum_at T F8 (PySem.W.mg_of X G g8) b8  
  have F9 := fun_mk (st := s_matched_slots) l9 c9 k9
  have b9 := F9.binds (ps := ["costs"]) fun _ _ _ _ _ _ us hl => match us, hl with | [_], _ => rfl
  have D_matched_slots : DefOk P w K mg base 5 "matched_slots" 1 p_matched_slots := ok_matched_slots T F9 (PySem.W.mg_of X G g9) b9 cc_Matching D_full_matching D_Matching_column_of D_sum_at
  have F10 := fun_mk (st := s_law_box) l10 c10 k10
  have b10 := F10.binds (ps := ["_law_script", "_law_k"]) fun _ _ _ _ _ _ us hl => match us, hl with | [_, _], _ => rfl
  have D_law_box : DefOk P w K mg base 1 "_law_box" 2 p_law_box := ok_law_box T F10 (PySem.W.mg_of X G g10) b10  
  have F11 := fun_mk (st := s_law_take) l11 c11 k11
  have b11 := F11.binds (ps := ["_law_box_here", "_law_size"]) fun _ _ _ _ _ _ us hl => match us, hl with | [_, _], _ => rfl
  have D_law_take : DefOk P w K mg base 1 "_law_take" 2 p_law_take := ok_law_take T F11 (PySem.W.mg_of X G g11) b11  
  have F12 := fun_mk (st := s_law_folded) l12 c12 k12
  have b12 := F12.binds (ps := ["_law_script", "_law_size"]) fun _ _ _ _ _ _ us hl => match us, hl with | [_, _], _ => rfl
  have D_law_folded : DefOk P w K mg base 1 "_law_folded" 2 p_law_folded := ok_law_folded T F12 (PySem.W.mg_of X G g12) b12  
  have F13 := fun_mk (st := s_law_same) l13 c13 k13
  have b13 := F13.binds (ps := ["_law_found", "_law_due"]) fun _ _ _ _ _ _ us hl => match us, hl with | [_, _], _ => rfl
  have D_law_same : DefOk P w K mg base 13 "_law_same" 2 p_law_same := ok_law_same T F13 (PySem.W.mg_of X G g13) b13   12
  have F14 := fun_mk (st := s_law_costs) l14 c14 k14
  have b14 := F14.binds (ps := ["_law_box_here"]) fun _ _ _ _ _ _ us hl => match us, hl with | [_], _ => rfl
  have D_law_costs : DefOk P w K mg base 2 "_law_costs" 1 p_law_costs := ok_law_costs T F14 (PySem.W.mg_of X G g14) b14  D_law_take
  have F15 := fun_mk (st := s_law_least_sum) l15 c15 k15
  have b15 := F15.binds (ps := ["_law_costs_here"]) fun _ _ _ _ _ _ us hl => match us, hl with | [_], _ => rfl
  have D_law_least_sum : DefOk P w K mg base 1 "_law_least_sum" 1 p_law_least_sum := ok_law_least_sum T F15 (PySem.W.mg_of X G g15) b15  
  have F16 := fun_mk (st := s_law_is_number) l16 c16 k16
  have b16 := F16.binds (ps := ["_law_thing"]) fun _ _ _ _ _ _ us hl => match us, hl with | [_], _ => rfl
  have D_law_is_number : DefOk P w K mg base 1 "_law_is_number" 1 p_law_is_number := ok_law_is_number T F16 (PySem.W.mg_of X G g16) b16  
  have F17 := fun_mk (st := s_law_are_numbers) l17 c17 k17
  have b17 := F17.binds (ps := ["_law_thing", "_law_many"]) fun _ _ _ _ _ _ us hl => match us, hl with | [_, _], _ => rfl
  have D_law_are_numbers : DefOk P w K mg base 2 "_law_are_numbers" 2 p_law_are_numbers := ok_law_are_numbers T F17 (PySem.W.mg_of X G g17) b17  D_law_is_number
  have F18 := fun_mk (st := s_law_right) l18 c18 k18
  have b18 := F18.binds (ps := ["_law_box_here"]) fun _ _ _ _ _ _ us hl => match us, hl with | [_], _ => rfl
  have D_law_right : DefOk P w K mg base 14 "_law_right" 1 p_law_right := ok_law_right T F18 (PySem.W.mg_of X G g18) b18  D_law_costs D_matched_slots D_law_are_numbers D_law_same D_law_least_sum
  have F19 := fun_mk (st := s_law) l19 c19 k19
  have b19 := F19.binds (ps := ["_law_script"]) fun _ _ _ _ _ _ us hl => match us, hl with | [_], _ => rfl
  have D_law : DefOk P w K mg base 15 "law" 1 p_law := ok_law T F19 (PySem.W.mg_of X G g19) b19  D_law_folded D_law_right D_law_box
  exact D_law
end
end QW

namespace QW
open PySem PySem.Spec PyProof.Rows L2 QL
theorem take_ok {S : Sto} {k N : Nat} {n : Int} (h : Bx N S k) (hN : N < 1099511627776) (h1 : 0 < n) (h2 : n < 1073741824) :
    wp (p_law_take [.c k, .d (.int n)] S) fun r S' => ∃ x, r = .d x ∧ Dr k (N + 1) S S' ∧ ∃ i : Int, x = .int i ∧ 0 ≤ i ∧ i < n := by
  have hb := h
  obtain ⟨a, b, c, e, a0, b0, b1, c0, c1⟩ := h
  unfold p_law_take
  refine w_fnD hb ?_
  show wpS (f_law_take [some (.c k), some (.d (.int n)), none, none, none, none] S) _
  unfold f_law_take
  unfold boxC at e
  simp only [st0, st1, st2, st3, st4, st5, st6, w_seq, w_if, w_forC, w_forN, x_jZm, x_par3, kPar3_eq, x_iZx, zx_L, zx_T, zx_LT, zx_TL, w_gSubD, q_addJ, x_iDk, w_augS, w_aug, x_slT, q_dk, q_dt, w_dp, w_md, eVar, isT, tyN, isNo, gsN, wipeR, kSq, viewL, viewS, reduceIte, reduceCtorEq, Nat.reduceAdd, String.reduceBEq, Int.reducePow, Int.reduceLT, Int.reduceLE, Nat.reduceLT, Nat.reduceLeDiff, Int.reduceToNat, List.getElem?_cons_zero, List.getElem?_cons_succ, List.set_cons_zero, List.set_cons_succ, List.length_cons, List.length_nil, if_true, Option.map_some, if_false, forall_const, List.length_map, Option.some.injEq, exists_eq_left', exists_eq_left, List.any_cons, List.any_nil, beq_self_eq_true, Option.isSome_some, exists_eq, exists_eq', q_ixC e, set_0 e, set_2 e, q_ixC (get_set e)]
  refine ⟨fun ha => ⟨⟨h1, h2⟩, ?_, Int.emod_nonneg _ (by omega), Int.emod_lt_of_pos _ h1⟩, fun ha => ⟨by omega, .inl (by omega), .inl (by omega), .inl (by omega), h1, ?_, Int.emod_nonneg _ (by omega), Int.emod_lt_of_pos _ h1⟩⟩
  · exact (Dr.set (N := N + 1) hb (Int.ediv_nonneg (by omega) (by omega)) b0 b1 c0 (by omega)).gr
  · exact (Dr.set (N := N + 1) hb a0 b0 b1 (by omega) (by omega)).gr
theorem take_i {S : Sto} {k N : Nat} {n : Int} {Q : Val → Sto → Prop} (h : Bx N S k) (hN : N < 1099511627776) (h1 : 0 < n) (h2 : n < 1073741824)
    (q : ∀ (i : Int) S', 0 ≤ i → i < n → Dr k (N + 1) S S' → Q (.d (.int i)) S') : wp (p_law_take [.c k, .d (.int n)] S) Q := by
  refine wp_mono (take_ok h hN h1 h2) fun r S' z => ?_
  obtain ⟨x, rfl, g, i, rfl, i0, i1⟩ := z
  exact q i S' i0 i1 g

end QW

namespace QW
open PySem PySem.Spec PyProof.Rows L2 QL
theorem box_ok {ns : List Int} {S : Sto} {k : Int} (h0 : 0 ≤ k) (h1 : k < 1000000) :
    wp (p_law_box [.d (.list (ns.map .int)), .d (.int k)] S) fun r S' => r = .c S.length ∧ ∃ ds : List PyData, S' = S ++ [.lst (ds.map .d)] ∧ Bx 0 S' S.length := by
  have fin : ∀ i a : Int, 0 ≤ a → Bx 0 (S ++ [.lst [.d (.int a), .d (.int ((i % 2147483629 + 15485863 * k + 37) * 48271 % 2147483647)), .d (.int 0)]]) S.length := fun i a ha =>
    ⟨a, _, 0, get_new _ _, ha, Int.emod_nonneg _ (by omega), by omega, by omega, by omega⟩
  refine wp_mono (Q := fun r S' => r = .c S.length ∧ ∃ ds : List PyData, S' = S ++ [.lst (ds.map .d)] ∧ Bx 0 (S ++ [.lst (ds.map .d)]) S.length) ?_ fun r S' ⟨h, ds, e, b⟩ => ⟨h, ds, e, by rw [e]; exact b⟩
  unfold p_law_box
  refine w_fnC ?_
  show wpS (f_law_box [some (.d (.list (ns.map .int))), some (.d (.int k)), none] S) _
  unfold f_law_box
  simp only [st0, st1, st2, st3, st4, st5, st6, w_seq, w_if, w_forC, w_forN, x_jZm, x_par3, kPar3_eq, x_iZx, zx_L, zx_T, zx_LT, zx_TL, w_gSubD, q_addJ, x_iDk, w_augS, w_aug, x_slT, q_dk, q_dt, w_dp, w_md, eVar, isT, tyN, isNo, gsN, wipeR, kSq, viewL, viewS, reduceIte, reduceCtorEq, Nat.reduceAdd, String.reduceBEq, Int.reducePow, Int.reduceLT, Int.reduceLE, Nat.reduceLT, Nat.reduceLeDiff, Int.reduceToNat, List.getElem?_cons_zero, List.getElem?_cons_succ, List.set_cons_zero, List.set_cons_succ, List.length_cons, List.length_nil, if_true, Option.map_some, if_false, forall_const, List.length_map, Option.some.injEq, exists_eq_left', exists_eq_left, List.any_cons, List.any_nil, beq_self_eq_true, Option.isSome_some, exists_eq, exists_eq']
  refine ⟨fun hk => ?_, fun hk => ?_⟩
  · refine ⟨_, at_in h0 hk, ?_⟩
    generalize ns[k.toNat]'_ = i
    (try simp only [st0, st1, st2, st3, st4, st5, st6, w_seq, w_if, w_forC, w_forN, x_jZm, x_par3, kPar3_eq, x_iZx, zx_L, zx_T, zx_LT, zx_TL, w_gSubD, q_addJ, x_iDk, w_augS, w_aug, x_slT, q_dk, q_dt, w_dp, w_md, eVar, isT, tyN, isNo, gsN, wipeR, kSq, viewL, viewS, reduceIte, reduceCtorEq, Nat.reduceAdd, String.reduceBEq, Int.reducePow, Int.reduceLT, Int.reduceLE, Nat.reduceLT, Nat.reduceLeDiff, Int.reduceToNat, List.getElem?_cons_zero, List.getElem?_cons_succ, List.set_cons_zero, List.set_cons_succ, List.length_cons, List.length_nil, if_true, Option.map_some, if_false, forall_const, List.length_map, Option.some.injEq, exists_eq_left', exists_eq_left, List.any_cons, List.any_nil, beq_self_eq_true, Option.isSome_some, exists_eq, exists_eq'])
    refine ⟨by decide, .inr ⟨by split <;> omega, by split <;> omega⟩, [_, _, _], rfl, fin i _ (Int.mul_nonneg (by split <;> omega) (by split <;> omega))⟩
  · refine ⟨by decide, [_, _, _], rfl, fin 0 _ (by decide)⟩

end QW

namespace QW
open PySem PySem.Spec PyProof.Rows L2 QL
theorem folded_ok {ns : List Int} {S : Sto} {n : Int} (h0 : 0 < n) (h1 : n < 1000000) :
    wp (p_law_folded [.s ns, .d (.int n)] S) fun r S' => ∃ x, r = .d x ∧ S' = S ∧ ∃ ms : List Int, x = .list (ms.map .int) ∧ ms.length ≤ n.toNat := by
  unfold p_law_folded
  refine w_fnP ?_
  show wpS (f_law_folded [some (.s ns), some (.d (.int n)), none, none, none] S) _
  unfold f_law_folded
  simp only [st0, st1, st2, st3, st4, st5, st6, w_seq, w_if, w_forC, w_forN, x_jZm, x_par3, kPar3_eq, x_iZx, zx_L, zx_T, zx_LT, zx_TL, w_gSubD, q_addJ, x_iDk, w_augS, w_aug, x_slT, q_dk, q_dt, w_dp, w_md, eVar, isT, tyN, isNo, gsN, wipeR, kSq, viewL, viewS, reduceIte, reduceCtorEq, Nat.reduceAdd, String.reduceBEq, Int.reducePow, Int.reduceLT, Int.reduceLE, Nat.reduceLT, Nat.reduceLeDiff, Int.reduceToNat, List.getElem?_cons_zero, List.getElem?_cons_succ, List.set_cons_zero, List.set_cons_succ, List.length_cons, List.length_nil, if_true, Option.map_some, if_false, forall_const, List.length_map, Option.some.injEq, exists_eq_left', exists_eq_left, List.any_cons, List.any_nil, beq_self_eq_true, Option.isSome_some, exists_eq, exists_eq', cut_to (Int.le_of_lt h0)]
  rw [cut_ft (Int.le_of_lt h0) (by decide)]
  refine w_loop (fun _ ρ S1 => ∃ u v, ∃ ms : List Int, ρ = [some (.s ns), some (.d (.int n)), some (.c S.length), u, v] ∧ S1 = S ++ [.lst ((ms.map PyData.int).map .d)] ∧ ms.length = (ns.take n.toNat).length) ⟨_, _, _, rfl, rfl, rfl⟩ ?_ ?_
  · rintro i d ρ S1 hd ⟨u, v, ms, rfl, rfl, hl⟩
    obtain ⟨y, hy, rfl⟩ := en_get hd
    obtain ⟨x, hx, rfl⟩ := map_get hy
    have hlen := (List.getElem?_eq_some_iff.mp hx).1
    have hm : ms.length = n.toNat := by
      rw [List.length_drop, List.length_take] at hlen
      rw [hl, List.length_take]
      omega
    have p0 : 0 ≤ ((0 + i : Nat) : Int) % n := Int.emod_nonneg _ (by omega)
    have p1 : ((0 + i : Nat) : Int) % n < n := Int.emod_lt_of_pos _ h0
    have hi : i < 63 := by rw [List.length_drop, List.length_take] at hlen; omega
    generalize hj : ((0 + i : Nat) : Int) % n = j at p0 p1
    have pj : j < ms.length := by omega
    simp only [st0, st1, st2, st3, st4, st5, st6, w_seq, w_if, w_forC, w_forN, x_jZm, x_par3, kPar3_eq, x_iZx, zx_L, zx_T, zx_LT, zx_TL, w_gSubD, q_addJ, x_iDk, w_augS, w_aug, x_slT, q_dk, q_dt, w_dp, w_md, eVar, isT, tyN, isNo, gsN, wipeR, kSq, viewL, viewS, reduceIte, reduceCtorEq, Nat.reduceAdd, String.reduceBEq, Int.reducePow, Int.reduceLT, Int.reduceLE, Nat.reduceLT, Nat.reduceLeDiff, Int.reduceToNat, List.getElem?_cons_zero, List.getElem?_cons_succ, List.set_cons_zero, List.set_cons_succ, List.length_cons, List.length_nil, if_true, Option.map_some, if_false, forall_const, List.length_map, Option.some.injEq, exists_eq_left', exists_eq_left, List.any_cons, List.any_nil, beq_self_eq_true, Option.isSome_some, exists_eq, exists_eq', q_ixC (get_new _ _), hj]
    refine ⟨h0, _, at_in p0 pj, ?_⟩
    (try simp only [st0, st1, st2, st3, st4, st5, st6, w_seq, w_if, w_forC, w_forN, x_jZm, x_par3, kPar3_eq, x_iZx, zx_L, zx_T, zx_LT, zx_TL, w_gSubD, q_addJ, x_iDk, w_augS, w_aug, x_slT, q_dk, q_dt, w_dp, w_md, eVar, isT, tyN, isNo, gsN, wipeR, kSq, viewL, viewS, reduceIte, reduceCtorEq, Nat.reduceAdd, String.reduceBEq, Int.reducePow, Int.reduceLT, Int.reduceLE, Nat.reduceLT, Nat.reduceLeDiff, Int.reduceToNat, List.getElem?_cons_zero, List.getElem?_cons_succ, List.set_cons_zero, List.set_cons_succ, List.length_cons, List.length_nil, if_true, Option.map_some, if_false, forall_const, List.length_map, Option.some.injEq, exists_eq_left', exists_eq_left, List.any_cons, List.any_nil, beq_self_eq_true, Option.isSome_some, exists_eq, exists_eq'])
    refine ⟨.inr ⟨by omega, by omega⟩, h0, _, q_setC (get_new _ _) (n := j.toNat) ?_, _, _, ms.set j.toNat (ms[j.toNat]'(by omega) + x * ((((0 + i : Nat) : Int)) + 2)), rfl, ?_, ?_⟩
    · unfold ixN
      rw [if_pos p0, if_pos (by simp only [List.length_map]; exact pj)]
    · rw [List.map_set, List.map_set]
      simp
    · rw [List.length_set]
      exact hl
  · rintro ρ S1 ⟨u, v, ms, rfl, rfl, hl⟩
    simp only [st0, st1, st2, st3, st4, st5, st6, w_seq, w_if, w_forC, w_forN, x_jZm, x_par3, kPar3_eq, x_iZx, zx_L, zx_T, zx_LT, zx_TL, w_gSubD, q_addJ, x_iDk, w_augS, w_aug, x_slT, q_dk, q_dt, w_dp, w_md, eVar, isT, tyN, isNo, gsN, wipeR, kSq, viewL, viewS, reduceIte, reduceCtorEq, Nat.reduceAdd, String.reduceBEq, Int.reducePow, Int.reduceLT, Int.reduceLE, Nat.reduceLT, Nat.reduceLeDiff, Int.reduceToNat, List.getElem?_cons_zero, List.getElem?_cons_succ, List.set_cons_zero, List.set_cons_succ, List.length_cons, List.length_nil, if_true, Option.map_some, if_false, forall_const, List.length_map, Option.some.injEq, exists_eq_left', exists_eq_left, List.any_cons, List.any_nil, beq_self_eq_true, Option.isSome_some, exists_eq, exists_eq', q_frzN (get_new _ _)]
    refine ⟨(Ex.new S _).setN (Nat.le_refl _) _, ms, rfl, ?_⟩
    rw [hl, List.length_take]
    omega

end QW

namespace QW
open PySem PySem.Spec PyProof.Rows L2 QL
/-! ### instances, said -/
def kAt (cn f : Str) (a : Val) (S : Sto) : Option (Val × Sto) := match insS cn S a with
  | some (_, fs) => match fs.lookup f with
    | some v => some (v, S)
    | none => none
  | none => none
theorem x_eAt {cn f : Str} {fa : Ef} {ρ : Rho} {S : Sto} : eAt cn f fa ρ S = bnd (fa ρ S) (kAt cn f) := rfl
theorem insS_c {cn : Str} {S : Sto} {k : Nat} {fs : List (Str × Val)} (h : S[k]? = some (.ins cn fs)) : insS cn S (.c k) = some (k, fs) := by
  unfold insS
  simp only [h, if_true]
theorem kAt_c {cn f : Str} {S : Sto} {k : Nat} {fs : List (Str × Val)} {v : Val} (h : S[k]? = some (.ins cn fs)) (hf : fs.lookup f = some v) : kAt cn f (.c k) S = some (v, S) := by
  unfold kAt
  rw [insS_c h]
  simp only [hf]
def kMeth (cn mt : Str) (n : Nat) (φ : List Val → Sto → Option (Val × Sto)) (fs : Af) (ρ : Rho) (o : Val) (S1 : Sto) : Option (Val × Sto) := match insS cn S1 o with
  | some (_, as0) => match as0.lookup mt with
    | some _ => none
    | none => bnd (fs ρ S1) fun as S2 => if as.length + 1 = n then φ (o :: as) S2 else none
  | none => none
theorem x_eMeth {cn mt : Str} {n : Nat} {φ : List Val → Sto → Option (Val × Sto)} {fo : Ef} {fs : Af} {ρ : Rho} {S : Sto} : eMeth cn mt n φ fo fs ρ S = bnd (fo ρ S) (kMeth cn mt n φ fs ρ) := rfl
theorem kMeth_c {cn mt : Str} {n : Nat} {φ : List Val → Sto → Option (Val × Sto)} {fs : Af} {ρ : Rho} {S : Sto} {k : Nat} {f0 : List (Str × Val)} (h : S[k]? = some (.ins cn f0)) (hf : f0.lookup mt = none) : kMeth cn mt n φ fs ρ (.c k) S = bnd (fs ρ S) fun as S2 => if as.length + 1 = n then φ (.c k :: as) S2 else none := by
  unfold kMeth
  rw [insS_c h]
  simp only [hf]
theorem w_sFs {cn f : Str} {fo fv : Ef} {ρ : Rho} {S : Sto} {Q : Fl → Rho → Sto → Prop} : QL.wpS (sFs cn f fo fv ρ S) Q ↔ wp (fv ρ S) fun v S1 => wp (fo ρ S1) fun o S2 => ∃ k fs, insS cn S2 o = some (k, fs) ∧ fs.length < 1000 ∧ Q .nx ρ (S2.set k (.ins cn (putA f v fs))) := by
  unfold sFs
  constructor
  · rintro ⟨fl, ρ', S', e, q⟩
    split at e
    · rename_i v S1 e1
      split at e
      · rename_i o S2 e2
        split at e
        · rename_i k fs e3
          split at e
          · rename_i hl
            cases e
            exact ⟨v, S1, e1, o, S2, e2, k, fs, e3, hl, q⟩
          · cases e
        · cases e
      · cases e
    · cases e
  · rintro ⟨v, S1, e1, o, S2, e2, k, fs, e3, hl, q⟩
    exact ⟨_, _, _, by simp only [e1, e2, e3, if_pos hl], q⟩
theorem w_sFa {cn f : Str} {g : Val → Val → Sto → Option (Val × Sto)} {fo fv : Ef} {ρ : Rho} {S : Sto} {Q : Fl → Rho → Sto → Prop} : QL.wpS (sFa cn f g fo fv ρ S) Q ↔ wp (fo ρ S) fun o S1 => ∃ k fs x, insS cn S1 o = some (k, fs) ∧ fs.lookup f = some x ∧ wp (fv ρ S1) fun y S2 => wp (g x y S2) fun z S3 => ∃ k' fs', insS cn S3 o = some (k', fs') ∧ fs'.length < 1000 ∧ Q .nx ρ (S3.set k (.ins cn (putA f z fs'))) := by
  unfold sFa
  constructor
  · rintro ⟨fl, ρ', S', e, q⟩
    split at e
    · rename_i o S1 e1
      split at e
      · rename_i k fs e2
        split at e
        · rename_i x e3
          split at e
          · rename_i y S2 e4
            split at e
            · rename_i z S3 e5
              split at e
              · rename_i k' fs' e6
                split at e
                · rename_i hl
                  cases e
                  exact ⟨o, S1, e1, k, fs, x, e2, e3, y, S2, e4, z, S3, e5, k', fs', e6, hl, q⟩
                · cases e
              · cases e
            · cases e
          · cases e
        · cases e
      · cases e
    · cases e
  · rintro ⟨o, S1, e1, k, fs, x, e2, e3, y, S2, e4, z, S3, e5, k', fs', e6, hl, q⟩
    exact ⟨_, _, _, by simp only [e1, e2, e3, e4, e5, e6, if_pos hl], q⟩
/-- a def that changes old cells and gives data -/
theorem w_fnM {nN : Nat} {fb : Sf} {as : List Val} {S S' : Sto} {x : PyData} (hk : S'.length = S.length) (hc : ∀ (i : Nat) (c : Cell), S'[i]? = some c → S[i]? = some c ∨ ClC S'.length c)
    (h : QL.wpS (fb (initR nN as) S) fun fl _ S1 => (fl = .rt (.d x) ∨ (fl = .nx ∧ x = .none)) ∧ ∃ T, S1 = S' ++ T) : φof nN 0 fb as S = some (.d x, S') := by
  obtain ⟨r, S1, e, h1, h2⟩ := w_fn (j := 0) (R := fun r S1 => r = .d x ∧ S1 = S') (wpS_mono h fun fl ρ S1 ⟨hf, T, e⟩ => ⟨.d x, S', T, by
    rcases hf with q | ⟨q1, q2⟩
    · exact .inl q
    · exact .inr ⟨q1, by rw [q2]⟩, e, hk, ⟨Nat.le_of_eq hk.symm, hc, trivial⟩, rfl, rfl⟩)
  subst h1 h2
  exact e
theorem clc_app {S L L' : Sto} (hl : L.length = L'.length) (hc : ∀ c ∈ L', ClC (S.length + L'.length) c) : ∀ (i : Nat) (c : Cell), (S ++ L')[i]? = some c → (S ++ L)[i]? = some c ∨ ClC (S ++ L').length c := fun i c h => by
  by_cases hi : i < S.length
  · left
    rw [List.getElem?_append_left hi] at h ⊢
    exact h
  · right
    rw [List.getElem?_append_right (by omega)] at h
    rw [List.length_append]
    exact hc c (List.mem_of_getElem? h)
theorem clc_tc {α : Type} (v : α → PyData) (xs : List α) (n : Nat) : ClC n (tc v xs) := fun x hx => by
  simp only [List.mem_map] at hx
  obtain ⟨d, _, rfl⟩ := hx
  exact trivial
theorem ga0 {S : Sto} {c : Cell} {L : List Cell} : (S ++ c :: L)[S.length]? = some c := by simp
theorem ga {S L : Sto} {i : Nat} : (S ++ L)[S.length + i]? = L[i]? := by
  rw [List.getElem?_append_right (Nat.le_add_right ..), Nat.add_sub_cancel_left]
theorem sa0 {S : Sto} {c d : Cell} {L : List Cell} : (S ++ c :: L).set S.length d = S ++ d :: L := by simp
theorem sa {S L : Sto} {i : Nat} {c : Cell} : (S ++ L).set (S.length + i) c = S ++ L.set i c := by
  rw [List.set_append_right _ _ (Nat.le_add_right ..), Nat.add_sub_cancel_left]
/-- a comprehension that changes cells, of things of one kind -/
theorem w_lcLX {α : Type} {G : Gf} {t : Tf} {e : Ef} {v : α → PyData} {ρ : Rho} {S : Sto} (I : List α → List Val → Sto → Prop) {xs : List α} {R : List Val → Sto → Prop} (h0 : I [] [] S)
    (hs : ∀ pre x post acc S, xs = pre ++ x :: post → I pre acc S → wp (G (.d (v x)) ρ S) fun ρ1 S1 => wp (t ρ1 S1) fun b S2 => (b = true → wp (e ρ1 S2) fun r S3 => I (pre ++ [x]) (acc ++ [r]) S3) ∧ (b = false → I (pre ++ [x]) acc S2))
    (hd : ∀ acc S, I xs acc S → R acc S) : wp (lcL G t e ρ (xs.map v) S) R := by
  refine w_lcL (fun i acc S => I (xs.take i) acc S) (by simpa using h0) ?_ (fun acc S h => hd acc S (by rw [List.length_map, List.take_length] at h; exact h))
  intro i d acc S hd h
  obtain ⟨x, hx, rfl⟩ := map_get hd
  obtain ⟨hl, he⟩ := List.getElem?_eq_some_iff.mp hx
  have e1 : xs = xs.take i ++ x :: xs.drop (i + 1) := by rw [← he, ← List.drop_eq_getElem_cons hl, List.take_append_drop]
  have e2 : xs.take (i + 1) = xs.take i ++ [x] := by rw [List.take_add_one, hx]; rfl
  rw [e2]
  exact hs _ x _ acc S e1 h

end QW

namespace QW
open PySem PySem.Spec PyProof.Rows L2 QL
/-! ### a matching, in plain Lean -/
structure Ms where
  u : Int → Int
  v : Int → Int
  ow : Int → Option Int
def upd1 {β : Type} (f : Int → β) (i : Int) (x : β) : Int → β := fun j => if j = i then x else f j
def raiseM (d : Int) (ms rows : List Int) (s : Ms) : Ms := { s with u := fun r => if r ∈ rows then s.u r + d else s.u r, v := fun c => if c ∈ ms then s.v c - d else s.v c }
structure Du (C : Int → Int → Int) (m n g : Int) (s : Ms) : Prop where
  fe : ∀ r c, 0 ≤ r → r < m → 0 ≤ c → c < n → s.u r + s.v c ≤ C r c
  ng : ∀ c, s.v c ≤ 0
  ow : ∀ c r, s.ow c = some r → (0 ≤ c ∧ c < n) ∧ (0 ≤ r ∧ r < g) ∧ s.u r + s.v c = C r c
  inj : ∀ c c' r, s.ow c = some r → s.ow c' = some r → c = c'
  al : ∀ r, 0 ≤ r → r < g → ∃ c, s.ow c = some r
  vz : ∀ c, s.ow c = none → s.v c = 0
  u0 : ∀ r, 0 ≤ s.u r
/-- how great the numbers are -/
structure Bd (M g : Int) (s : Ms) : Prop where
  un : ∀ r, g ≤ r → s.u r = 0
  vb : ∀ c, -(g * M) ≤ s.v c
structure Grw (C : Int → Int → Int) (M m n g : Int) (s : Ms) (ms : List Int) (came : Int → Option Int) (at' : Option Int) : Prop where
  du : Du C m n g s
  nd : (ms ++ at'.toList).Nodup
  rg : ∀ c ∈ ms ++ at'.toList, 0 ≤ c ∧ c < n
  own : ∀ c ∈ ms, ∃ r, s.ow c = some r
  ca : ∀ pre c post, ms ++ at'.toList = pre ++ c :: post → ∃ r, came c = some r ∧ (0 ≤ r ∧ r ≤ g) ∧ s.u r + s.v c = C r c ∧ (r = g ∨ ∃ c' ∈ pre, s.ow c' = some r)
  un : ∀ r, g < r → s.u r = 0
  vb : ∀ c, -(g * M) - s.u g ≤ s.v c
def rowsM (g : Int) (ms : List Int) (s : Ms) : List Int := g :: ms.map fun c => (s.ow c).getD 0
section
variable {C : Int → Int → Int} {M m n g : Int} {s : Ms} {ms : List Int} {came : Int → Option Int} {at' : Option Int}
theorem rows_mem {r : Int} (h : ∀ c ∈ ms, ∃ r, s.ow c = some r) : r ∈ rowsM g ms s ↔ r = g ∨ ∃ c ∈ ms, s.ow c = some r := by
  unfold rowsM
  rw [List.mem_cons, List.mem_map]
  constructor
  · rintro (e | ⟨c, hc, e⟩)
    · exact .inl e
    · obtain ⟨r', e'⟩ := h c hc
      rw [e'] at e
      exact .inr ⟨c, hc, by rw [e', ← e]; rfl⟩
  · rintro (e | ⟨c, hc, e⟩)
    · exact .inl e
    · exact .inr ⟨c, hc, by rw [e]; rfl⟩
theorem Grw.start (d : Du C m n g s) (b : Bd M g s) (came : Int → Option Int) : Grw C M m n g s [] came none := ⟨d, by simp, by simp, by simp, fun pre c post e => by simp at e, fun r h => b.un r (by omega), fun c => by have := b.vb c; have := b.un g (Int.le_refl _); omega⟩
theorem Grw.shift {a x : Int} (h : Grw C M m n g s ms came (some a)) (hx : s.ow a = some x) : Grw C M m n g s (ms ++ [a]) came none :=
  ⟨h.du, by simpa using h.nd, by simpa using h.rg, fun c hc => by
    rcases List.mem_append.mp hc with q | q
    · exact h.own c q
    · rw [List.mem_singleton.mp q]
      exact ⟨x, hx⟩, fun pre c post e => h.ca pre c post (by simpa using e), h.un, h.vb⟩
theorem rows_app {a x : Int} (hx : s.ow a = some x) : rowsM g ms s ++ [x] = rowsM g (ms ++ [a]) s := by
  unfold rowsM
  rw [List.map_append, List.map_cons, List.map_nil, hx]
  rfl
theorem Grw.rows_rg (h : Grw C M m n g s ms came at') (g0 : 0 ≤ g) {r : Int} (hr : r ∈ rowsM g ms s) : 0 ≤ r ∧ r ≤ g := by
  rcases (rows_mem h.own).mp hr with e | ⟨c, _, e⟩
  · omega
  · have := (h.du.ow c r e).2.1
    omega
theorem Grw.rows_nd (h : Grw C M m n g s ms came at') : (rowsM g ms s).Nodup := by
  unfold rowsM
  rw [List.nodup_cons]
  refine ⟨fun z => ?_, ?_⟩
  · obtain ⟨c, hc, e⟩ := List.mem_map.mp z
    obtain ⟨r, e'⟩ := h.own c hc
    rw [e'] at e
    have := (h.du.ow c r e').2.1
    have e2 : r = g := e
    omega
  · have hn : ms.Nodup := (List.nodup_append.mp h.nd).1
    refine List.pairwise_map.mpr (List.Pairwise.imp_of_mem (fun {a b} ha hb hab e => hab ?_) hn)
    obtain ⟨r, e1⟩ := h.own a ha
    obtain ⟨r', e2⟩ := h.own b hb
    rw [e1, e2] at e
    have e3 : r = r' := e
    rw [e3] at e1
    exact h.du.inj a b r' e1 e2
theorem Grw.free (h : Grw C M m n g s ms came none) (g0 : 0 ≤ g) (hg : g < m) (hmn : m ≤ n) : ∃ k, 0 ≤ k ∧ k < n ∧ k ∉ ms := by
  apply Classical.byContradiction
  intro z
  have hall : ∀ k, 0 ≤ k → k < n → k ∈ ms := fun k h0 h1 => Classical.byContradiction fun q => z ⟨k, h0, h1, q⟩
  have l1 : (rngI n.toNat).length ≤ ms.length := List.Nodup.length_le_of_subset (rngI_nd _) fun k hk => by
    have := rngI_mem.mp hk
    exact hall k this.1 (by omega)
  have l2 : (rowsM g ms s).length ≤ (rngI (g + 1).toNat).length := List.Nodup.length_le_of_subset h.rows_nd fun r hr => by
    have := h.rows_rg g0 hr
    exact rngI_mem.mpr ⟨this.1, by omega⟩
  rw [rngI_len] at l1 l2
  have l3 : (rowsM g ms s).length = ms.length + 1 := by simp [rowsM]
  omega
theorem Grw.step {d k r : Int} (h : Grw C M m n g s ms came none) (g0 : 0 ≤ g) (hg : g < m) (hk : 0 ≤ k ∧ k < n) (hkm : k ∉ ms) (hr : r ∈ rowsM g ms s) (hd : d = C r k - s.u r - s.v k)
    (hmin : ∀ r' ∈ rowsM g ms s, ∀ k', 0 ≤ k' → k' < n → k' ∉ ms → d ≤ C r' k' - s.u r' - s.v k') : Grw C M m n g (raiseM d ms (rowsM g ms s) s) ms (upd1 came k r) (some k) := by
  have hrr := h.rows_rg g0 hr
  have d0 : 0 ≤ d := by
    have := h.du.fe r k hrr.1 (by omega) hk.1 hk.2
    omega
  have row_own : ∀ c r, s.ow c = some r → (r ∈ rowsM g ms s ↔ c ∈ ms) := fun c r e => by
    rw [rows_mem h.own]
    constructor
    · rintro (q | ⟨c', hc', e'⟩)
      · have := (h.du.ow c r e).2.1
        omega
      · rw [h.du.inj c c' r e e']
        exact hc'
    · intro hc
      exact .inr ⟨c, hc, e⟩
  refine ⟨⟨fun r' c h1 h2 h3 h4 => ?_, fun c => ?_, fun c r' e => ?_, h.du.inj, h.du.al, fun c e => ?_, fun r' => ?_⟩, ?_, fun c hc => ?_, h.own, fun pre c post e => ?_, fun r' hr' => ?_, fun c => ?_⟩
  · show (if r' ∈ rowsM g ms s then s.u r' + d else s.u r') + (if c ∈ ms then s.v c - d else s.v c) ≤ C r' c
    have hf := h.du.fe r' c h1 h2 h3 h4
    by_cases a : r' ∈ rowsM g ms s
    · by_cases b : c ∈ ms
      · rw [if_pos a, if_pos b]
        omega
      · rw [if_pos a, if_neg b]
        have := hmin r' a c h3 h4 b
        omega
    · rw [if_neg a]
      split <;> omega
  · show (if c ∈ ms then s.v c - d else s.v c) ≤ 0
    have := h.du.ng c
    split <;> omega
  · have e : s.ow c = some r' := e
    obtain ⟨q1, q2, q3⟩ := h.du.ow c r' e
    refine ⟨q1, q2, ?_⟩
    show (if r' ∈ rowsM g ms s then s.u r' + d else s.u r') + (if c ∈ ms then s.v c - d else s.v c) = C r' c
    have hro := row_own c r' e
    by_cases a : c ∈ ms
    · rw [if_pos (hro.mpr a), if_pos a]
      omega
    · rw [if_neg (fun z => a (hro.mp z)), if_neg a]
      exact q3
  · show (if c ∈ ms then s.v c - d else s.v c) = 0
    have e : s.ow c = none := e
    rw [if_neg (fun z => by obtain ⟨r2, e2⟩ := h.own c z; rw [e] at e2; cases e2)]
    exact h.du.vz c e
  · show 0 ≤ (if r' ∈ rowsM g ms s then s.u r' + d else s.u r')
    have := h.du.u0 r'
    split <;> omega
  · have hn := h.nd
    simp only [Option.toList_none, List.append_nil] at hn
    simp only [Option.toList_some]
    rw [List.nodup_append]
    exact ⟨hn, by simp, fun a ha b hb e => by rw [List.mem_singleton.mp hb] at e; rw [e] at ha; exact hkm ha⟩
  · simp only [Option.toList_some] at hc
    rcases List.mem_append.mp hc with q | q
    · exact h.rg c (by simpa using q)
    · rw [List.mem_singleton.mp q]
      exact hk
  · simp only [Option.toList_some] at e
    rcases List.append_eq_append_iff.mp e with ⟨t, e1, e2⟩ | ⟨t, e1, e2⟩
    · -- c is k, or beyond
      cases t with
      | nil =>
        simp only [List.nil_append, List.cons.injEq] at e2
        obtain ⟨e2, e3⟩ := e2
        simp only [List.append_nil] at e1
        subst e1 e2
        refine ⟨r, if_pos rfl, hrr, ?_, ?_⟩
        · show (if r ∈ rowsM g pre s then s.u r + d else s.u r) + (if k ∈ pre then s.v k - d else s.v k) = C r k
          rw [if_pos hr, if_neg hkm]
          omega
        · exact (rows_mem h.own).mp hr
      | cons y t =>
        have := congrArg List.length e2
        simp at this
    · cases t with
      | nil =>
        simp only [List.nil_append, List.cons.injEq] at e2
        obtain ⟨e2, e3⟩ := e2
        simp only [List.append_nil] at e1
        subst e1 e2
        refine ⟨r, if_pos rfl, hrr, ?_, ?_⟩
        · show (if r ∈ rowsM g ms s then s.u r + d else s.u r) + (if c ∈ ms then s.v c - d else s.v c) = C r c
          rw [if_pos hr, if_neg hkm]
          omega
        · exact (rows_mem h.own).mp hr
      | cons y t =>
        simp only [List.cons_append, List.cons.injEq] at e2
        obtain ⟨e2, e3⟩ := e2
        subst e2
        obtain ⟨r', q1, q2, q3, q4⟩ := h.ca pre c t (by simpa using e1)
        have hcm : c ∈ ms := by rw [e1]; simp
        have hck : c ≠ k := fun z => hkm (z ▸ hcm)
        have hrm : r' ∈ rowsM g ms s := by
          rw [rows_mem h.own]
          rcases q4 with q | ⟨c', hc', q⟩
          · exact .inl q
          · exact .inr ⟨c', by rw [e1]; exact List.mem_append_left _ hc', q⟩
        refine ⟨r', by unfold upd1; rw [if_neg hck]; exact q1, q2, ?_, q4⟩
        show (if r' ∈ rowsM g ms s then s.u r' + d else s.u r') + (if c ∈ ms then s.v c - d else s.v c) = C r' c
        rw [if_pos hrm, if_pos hcm]
        omega
  · show (if r' ∈ rowsM g ms s then s.u r' + d else s.u r') = 0
    rw [if_neg (fun z => by have := h.rows_rg g0 z; omega)]
    exact h.un r' hr'
  · show -(g * M) - (if g ∈ rowsM g ms s then s.u g + d else s.u g) ≤ (if c ∈ ms then s.v c - d else s.v c)
    rw [if_pos (by simp [rowsM])]
    have := h.vb c
    split <;> omega
/-! giving back -/
structure Gb (C : Int → Int → Int) (n g : Int) (s : Ms) (came : Int → Option Int) (O : Int → Option Int) (pre : List Int) (a : Int) : Prop where
  same : ∀ c ∈ pre ++ [a], O c = s.ow c
  ra : 0 ≤ a ∧ a < n
  na : a ∉ pre
  nd : pre.Nodup
  ca : ∀ p c q, pre ++ [a] = p ++ c :: q → ∃ r, came c = some r ∧ (0 ≤ r ∧ r ≤ g) ∧ s.u r + s.v c = C r c ∧ (r = g ∨ ∃ c' ∈ p, s.ow c' = some r)
  st : ∀ c r, O c = some r → (0 ≤ c ∧ c < n) ∧ (0 ≤ r ∧ r < g)
  ti : ∀ c r, c ≠ a → O c = some r → s.u r + s.v c = C r c
  inj : ∀ c c' r, c ≠ a → c' ≠ a → O c = some r → O c' = some r → c = c'
  al : ∀ r, 0 ≤ r → r < g → ∃ c, c ≠ a ∧ O c = some r
  nn : ∀ c, O c = none → s.ow c = none
theorem Grw.give {a : Int} (h : Grw C M m n g s ms came (some a)) (ha : s.ow a = none) : Gb C n g s came s.ow ms a := by
  have hn := h.nd
  simp only [Option.toList_some] at hn
  rw [List.nodup_append] at hn
  refine ⟨fun _ _ => rfl, h.rg a (by simp), fun z => hn.2.2 a z a (by simp) rfl, hn.1, fun p c q e => h.ca p c q (by simpa using e), fun c r e => ⟨(h.du.ow c r e).1, (h.du.ow c r e).2.1⟩, fun c r _ e => (h.du.ow c r e).2.2, fun c c' r _ _ e e' => h.du.inj c c' r e e', fun r h0 h1 => ?_, fun c e => e⟩
  obtain ⟨c, e⟩ := h.du.al r h0 h1
  exact ⟨c, fun z => (by rw [z, ha] at e; cases e), e⟩
theorem Gb.look {O : Int → Option Int} {pre : List Int} {a : Int} (h : Gb C n g s came O pre a) : ∃ r, came a = some r ∧ (0 ≤ r ∧ r ≤ g) ∧ s.u r + s.v a = C r a ∧ (r = g ∨ ∃ c' ∈ pre, s.ow c' = some r) := h.ca pre a [] rfl
theorem Gb.last {O : Int → Option Int} {pre : List Int} {a : Int} (h : Gb C n g s came O pre a) (d : Du C m n g s) (g0 : 0 ≤ g) (hc : came a = some g) : Du C m n (g + 1) { s with ow := upd1 O a (some g) } := by
  obtain ⟨r, e, q1, q2, _⟩ := h.look
  rw [hc] at e
  cases e
  refine ⟨d.fe, d.ng, fun c r e => ?_, fun c c' r e e' => ?_, fun r h0 h1 => ?_, fun c e => ?_, d.u0⟩
  · have e : (if c = a then some g else O c) = some r := e
    by_cases z : c = a
    · rw [if_pos z] at e
      cases e
      rw [z]
      exact ⟨h.ra, ⟨g0, by omega⟩, q2⟩
    · rw [if_neg z] at e
      have := h.st c r e
      exact ⟨this.1, ⟨this.2.1, by omega⟩, h.ti c r z e⟩
  · have e : (if c = a then some g else O c) = some r := e
    have e' : (if c' = a then some g else O c') = some r := e'
    by_cases z : c = a
    · by_cases z' : c' = a
      · rw [z, z']
      · rw [if_pos z] at e
        rw [if_neg z'] at e'
        cases e
        have := (h.st c' g e').2
        omega
    · rw [if_neg z] at e
      by_cases z' : c' = a
      · rw [if_pos z'] at e'
        cases e'
        have := (h.st c g e).2
        omega
      · rw [if_neg z'] at e'
        exact h.inj c c' r z z' e e'
  · by_cases z : r = g
    · exact ⟨a, by rw [z]; exact if_pos rfl⟩
    · obtain ⟨c, h1, h2⟩ := h.al r h0 (by omega)
      exact ⟨c, by show (if c = a then some g else O c) = some r; rw [if_neg h1]; exact h2⟩
  · have e : (if c = a then some g else O c) = none := e
    by_cases z : c = a
    · rw [if_pos z] at e
      cases e
    · rw [if_neg z] at e
      exact d.vz c (h.nn c e)
/-- the column that a row had -/
theorem Gb.next {O : Int → Option Int} {pre : List Int} {a r : Int} (h : Gb C n g s came O pre a) (d : Du C m n g s) (hc : came a = some r) (hr : r ≠ g) : ∃ p c' q, pre = p ++ c' :: q ∧ O c' = some r ∧ (∀ c, O c = some r → c = c') ∧ Gb C n g s came (upd1 O a (some r)) p c' := by
  obtain ⟨r', e, q1, q2, q3⟩ := h.look
  rw [hc] at e
  cases e
  rcases q3 with q3 | ⟨c', hc', q3⟩
  · exact absurd q3 hr
  obtain ⟨p, q, ep⟩ := List.append_of_mem hc'
  have hca : c' ≠ a := fun z => h.na (z ▸ hc')
  have eO : O c' = some r := (h.same c' (List.mem_append_left _ hc')).trans q3
  have one : ∀ c, O c = some r → c = c' := fun c ec => by
    by_cases z : c = a
    · rw [z, h.same a (by simp)] at ec
      exact absurd (d.inj a c' r ec q3) (fun w => hca w.symm)
    · exact h.inj c c' r z hca ec eO
  have hnd := h.nd
  rw [ep] at hnd
  have hn2 := List.nodup_append.mp hnd
  have hin : ∀ c ∈ p ++ [c'], c ∈ pre := fun c hc => by
    rw [ep]
    rcases List.mem_append.mp hc with z | z
    · exact List.mem_append_left _ z
    · rw [List.mem_singleton.mp z]; simp
  have hrg := h.st c' r eO
  refine ⟨p, c', q, ep, eO, one, ⟨fun c hc => ?_, hrg.1, fun z => hn2.2.2 c' z c' (by simp) rfl, hn2.1, fun p' c q' e => ?_, fun c r2 e => ?_, fun c r2 hne e => ?_, fun c c2 r2 h1 h2 e e2 => ?_, fun r2 h0 h1 => ?_, fun c e => ?_⟩⟩
  · have := hin c hc
    show (if c = a then some r else O c) = s.ow c
    rw [if_neg (fun (z : c = a) => h.na (z ▸ this))]
    exact h.same c (List.mem_append_left _ this)
  · obtain ⟨r2, w1, w2⟩ := h.ca p' c (q' ++ (q ++ [a])) (by rw [ep]; have e2 := congrArg (· ++ (q ++ [a])) e; simpa using e2)
    exact ⟨r2, w1, w2⟩
  · have e : (if c = a then some r else O c) = some r2 := e
    by_cases z : c = a
    · rw [if_pos z] at e
      cases e
      rw [z]
      exact ⟨h.ra, hrg.2⟩
    · rw [if_neg z] at e
      exact h.st c r2 e
  · have e : (if c = a then some r else O c) = some r2 := e
    by_cases z : c = a
    · rw [if_pos z] at e
      cases e
      rw [z]
      exact q2
    · rw [if_neg z] at e
      exact h.ti c r2 z e
  · have e : (if c = a then some r else O c) = some r2 := e
    have e2 : (if c2 = a then some r else O c2) = some r2 := e2
    by_cases z : c = a
    · by_cases z2 : c2 = a
      · rw [z, z2]
      · rw [if_pos z] at e
        rw [if_neg z2] at e2
        cases e
        exact absurd (one c2 e2) h2
    · rw [if_neg z] at e
      by_cases z2 : c2 = a
      · rw [if_pos z2] at e2
        cases e2
        exact absurd (one c e) h1
      · rw [if_neg z2] at e2
        exact h.inj c c2 r2 z z2 e e2
  · obtain ⟨c, h3, h4⟩ := h.al r2 h0 h1
    by_cases z : c = c'
    · rw [z, eO] at h4
      cases h4
      exact ⟨a, fun w => hca w.symm, if_pos rfl⟩
    · exact ⟨c, z, by show (if c = a then some r else O c) = some r2; rw [if_neg h3]; exact h4⟩
  · have e : (if c = a then some r else O c) = none := e
    by_cases z : c = a
    · rw [if_pos z] at e
      cases e
    · rw [if_neg z] at e
      exact h.nn c e
theorem Grw.bd {a : Int} (h : Grw C M m n g s ms came (some a)) (ha : s.ow a = none) (g0 : 0 ≤ g) (hg : g < m) (hM : ∀ r c, 0 ≤ r → r < m → 0 ≤ c → c < n → C r c ≤ M) (O : Int → Option Int) : Bd M (g + 1) { s with ow := O } := by
  have har := h.rg a (by simp)
  have h1 := h.du.fe g a g0 hg har.1 har.2
  have h2 := h.du.vz a ha
  have h3 := hM g a g0 hg har.1 har.2
  refine ⟨fun r hr => h.un r (by omega), fun c => ?_⟩
  have := h.vb c
  have e : (g + 1) * M = g * M + M := by rw [Int.add_mul, Int.one_mul]
  show -((g + 1) * M) ≤ s.v c
  omega
end

end QW

namespace QW
open PySem PySem.Spec PyProof.Rows L2 QL
/-! ### a matching's cells -/
def oD : Option Int → PyData
  | none => .none
  | some i => .int i
theorem encO : Enc oD := ⟨fun x => by cases x <;> rfl, fun x => by cases x <;> exact Nat.zero_le _, fun x y => by
  cases x <;> cases y <;> simp [oD, PyData.eqv]⟩
def vC (cs : List (List Int)) : PyData := .list (cs.map fun r => .list (r.map .int))
def CC (cs : List (List Int)) (r c : Int) : Int := ((atI cs r).bind fun x => atI x c).getD 0
structure CsOk (cs : List (List Int)) (n : Nat) : Prop where
  rw : ∀ r ∈ cs, r.length = n
  ps : ∀ r ∈ cs, ∀ x ∈ r, 0 ≤ x
  le : cs.length ≤ n
  n1 : n ≤ 1000
def mtF (cs : List (List Int)) (n k : Nat) : List (Str × Val) := [("costs", .d (vC cs)), ("many", .d (.int n)), ("row_numbers", .c (k + 1)), ("column_numbers", .c (k + 2)), ("owners", .c (k + 3))]
def mtL (cs : List (List Int)) (n k : Nat) (s : Ms) : List Cell := [.ins "Matching" (mtF cs n k), tc PyData.int ((rngI cs.length).map s.u), tc PyData.int ((rngI n).map s.v), tc oD ((rngI n).map s.ow)]
def mtS (S : Sto) (cs : List (List Int)) (n : Nat) (s : Ms) (W : Sto) : Sto := S ++ (mtL cs n S.length s ++ W)
theorem rng_at {n : Nat} {i : Int} (h0 : 0 ≤ i) (h1 : i < n) : (rngI n)[i.toNat]? = some i := by
  unfold rngI
  rw [List.getElem?_map, List.getElem?_range (by omega)]
  simp only [Option.map_some, Option.some.injEq]
  omega
theorem fn_at {α : Type} {f : Int → α} {n : Nat} {i : Int} (h0 : 0 ≤ i) (h1 : i < n) : atI ((rngI n).map f) i = some (f i) := by
  unfold atI ixN
  rw [if_pos h0, if_pos (by rw [List.length_map, rngI_len]; omega)]
  show ((rngI n).map f)[i.toNat]? = _
  rw [List.getElem?_map, rng_at h0 h1]
  rfl
theorem fn_set {α : Type} {f : Int → α} {n : Nat} {i : Int} {x : α} (h0 : 0 ≤ i) : ((rngI n).map f).set i.toNat x = (rngI n).map (upd1 f i x) := by
  apply List.ext_getElem?
  intro j
  rw [List.getElem?_set, List.getElem?_map]
  by_cases hj : j < n
  · have e : (rngI n)[j]? = some (j : Int) := by
      have := rng_at (n := n) (i := (j : Int)) (by omega) (by omega)
      simpa using this
    rw [List.getElem?_map, e]
    simp only [Option.map_some, List.length_map, rngI_len]
    unfold upd1
    by_cases z : i.toNat = j
    · rw [if_pos z, if_pos (by omega), if_pos (by omega)]
    · rw [if_neg z, if_neg (by omega)]
  · have e : (rngI n)[j]? = none := List.getElem?_eq_none (by rw [rngI_len]; omega)
    rw [List.getElem?_map, e]
    simp only [Option.map_none, List.length_map, rngI_len]
    by_cases z : i.toNat = j
    · rw [if_pos z, if_neg (by omega)]
    · rw [if_neg z]
theorem fn_cong {α : Type} {f g : Int → α} {n : Nat} (h : ∀ i, f i = g i) : (rngI n).map f = (rngI n).map g := List.map_congr_left fun i _ => h i
section
variable {S W : Sto} {cs : List (List Int)} {n : Nat} {s : Ms}
theorem mt_i : (mtS S cs n s W)[S.length]? = some (.ins "Matching" (mtF cs n S.length)) := ga0
theorem mt_1 : (mtS S cs n s W)[S.length + 1]? = some (tc PyData.int ((rngI cs.length).map s.u)) := ga
theorem mt_2 : (mtS S cs n s W)[S.length + 2]? = some (tc PyData.int ((rngI n).map s.v)) := ga
theorem mt_3 : (mtS S cs n s W)[S.length + 3]? = some (tc oD ((rngI n).map s.ow)) := ga
theorem mt_4 {a : Cell} : (mtS S cs n s (a :: W))[S.length + 4]? = some a := ga
theorem mt_5 {a b : Cell} : (mtS S cs n s (a :: b :: W))[S.length + 5]? = some b := ga
theorem mt_6 {a b c : Cell} : (mtS S cs n s (a :: b :: c :: W))[S.length + 6]? = some c := ga
theorem mt_7 {a b c d : Cell} : (mtS S cs n s (a :: b :: c :: d :: W))[S.length + 7]? = some d := ga
theorem ms_1 {f : Int → Int} : (mtS S cs n s W).set (S.length + 1) (tc PyData.int ((rngI cs.length).map f)) = mtS S cs n { s with u := f } W := sa
theorem ms_2 {f : Int → Int} : (mtS S cs n s W).set (S.length + 2) (tc PyData.int ((rngI n).map f)) = mtS S cs n { s with v := f } W := sa
theorem ms_3 {f : Int → Option Int} : (mtS S cs n s W).set (S.length + 3) (tc oD ((rngI n).map f)) = mtS S cs n { s with ow := f } W := sa
theorem ms_4 {a a' : Cell} : (mtS S cs n s (a :: W)).set (S.length + 4) a' = mtS S cs n s (a' :: W) := sa
theorem ms_5 {a b b' : Cell} : (mtS S cs n s (a :: b :: W)).set (S.length + 5) b' = mtS S cs n s (a :: b' :: W) := sa
theorem ms_6 {a b c c' : Cell} : (mtS S cs n s (a :: b :: c :: W)).set (S.length + 6) c' = mtS S cs n s (a :: b :: c' :: W) := sa
theorem ms_7 {a b c d d' : Cell} : (mtS S cs n s (a :: b :: c :: d :: W)).set (S.length + 7) d' = mtS S cs n s (a :: b :: c :: d' :: W) := sa
theorem mt_app {T : Sto} : mtS S cs n s W ++ T = mtS S cs n s (W ++ T) := by
  unfold mtS
  rw [List.append_assoc, List.append_assoc]
theorem mt_len : (mtS S cs n s W).length = S.length + 4 + W.length := by
  unfold mtS mtL
  simp only [List.length_append, List.length_cons, List.length_nil]
  omega
theorem ma_costs : kAt "Matching" "costs" (.c S.length) (mtS S cs n s W) = some (.d (vC cs), mtS S cs n s W) := kAt_c mt_i rfl
theorem ma_many : kAt "Matching" "many" (.c S.length) (mtS S cs n s W) = some (.d (.int n), mtS S cs n s W) := kAt_c mt_i rfl
theorem ma_u : kAt "Matching" "row_numbers" (.c S.length) (mtS S cs n s W) = some (.c (S.length + 1), mtS S cs n s W) := kAt_c mt_i rfl
theorem ma_v : kAt "Matching" "column_numbers" (.c S.length) (mtS S cs n s W) = some (.c (S.length + 2), mtS S cs n s W) := kAt_c mt_i rfl
theorem ma_ow : kAt "Matching" "owners" (.c S.length) (mtS S cs n s W) = some (.c (S.length + 3), mtS S cs n s W) := kAt_c mt_i rfl
theorem mm_meth {mt : Str} {m : Nat} {φ : List Val → Sto → Option (Val × Sto)} {fs : Af} {ρ : Rho} (hf : (mtF cs n S.length).lookup mt = none) : kMeth "Matching" mt m φ fs ρ (.c S.length) (mtS S cs n s W) = bnd (fs ρ (mtS S cs n s W)) fun as S2 => if as.length + 1 = m then φ (.c S.length :: as) S2 else none := kMeth_c mt_i hf
theorem mx_u {r : Int} (h0 : 0 ≤ r) (h1 : r < cs.length) : gIx (.c (S.length + 1)) (.d (.int r)) (mtS S cs n s W) = some (.d (.int (s.u r)), mtS S cs n s W) := by
  rw [tc_ix mt_1, fn_at h0 h1]
  rfl
theorem mx_v {c : Int} (h0 : 0 ≤ c) (h1 : c < n) : gIx (.c (S.length + 2)) (.d (.int c)) (mtS S cs n s W) = some (.d (.int (s.v c)), mtS S cs n s W) := by
  rw [tc_ix mt_2, fn_at h0 h1]
  rfl
theorem mx_ow {c : Int} (h0 : 0 ≤ c) (h1 : c < n) : gIx (.c (S.length + 3)) (.d (.int c)) (mtS S cs n s W) = some (.d (oD (s.ow c)), mtS S cs n s W) := by
  rw [tc_ix mt_3, fn_at h0 h1]
  rfl
theorem my_u {r x : Int} (h0 : 0 ≤ r) (h1 : r < cs.length) : setIx (.c (S.length + 1)) (.d (.int r)) (.d (.int x)) (mtS S cs n s W) = some (mtS S cs n { s with u := upd1 s.u r x } W) := by
  rw [tc_set mt_1 h0 (by rw [List.length_map, rngI_len]; exact h1), fn_set h0, ms_1]
theorem my_v {c x : Int} (h0 : 0 ≤ c) (h1 : c < n) : setIx (.c (S.length + 2)) (.d (.int c)) (.d (.int x)) (mtS S cs n s W) = some (mtS S cs n { s with v := upd1 s.v c x } W) := by
  rw [tc_set mt_2 h0 (by rw [List.length_map, rngI_len]; exact h1), fn_set h0, ms_2]
theorem my_ow {c : Int} {x : Option Int} (h0 : 0 ≤ c) (h1 : c < n) : setIx (.c (S.length + 3)) (.d (.int c)) (.d (oD x)) (mtS S cs n s W) = some (mtS S cs n { s with ow := upd1 s.ow c x } W) := by
  rw [tc_set mt_3 h0 (by rw [List.length_map, rngI_len]; exact h1), fn_set h0, ms_3]
theorem cs_row (h : CsOk cs n) {r : Int} (h0 : 0 ≤ r) (h1 : r < cs.length) : ∃ row, atI cs r = some row ∧ row ∈ cs ∧ row.length = n := by
  have e : cs[r.toNat]? = some (cs[r.toNat]'(by omega)) := List.getElem?_eq_getElem (by omega)
  have hm : cs[r.toNat]'(by omega) ∈ cs := List.getElem_mem (by omega)
  refine ⟨_, ?_, hm, h.rw _ hm⟩
  unfold atI ixN
  rw [if_pos h0, if_pos h1]
  exact e
theorem cs_cell (h : CsOk cs n) {r c : Int} (h0 : 0 ≤ r) (h1 : r < cs.length) (h2 : 0 ≤ c) (h3 : c < n) : ∃ row, atI cs r = some row ∧ atI row c = some (CC cs r c) ∧ 0 ≤ CC cs r c := by
  obtain ⟨row, e, hm, hl⟩ := cs_row h h0 h1
  have e2 : row[c.toNat]? = some (row[c.toNat]'(by omega)) := List.getElem?_eq_getElem (by omega)
  have e3 : atI row c = some (row[c.toNat]'(by omega)) := by
    unfold atI ixN
    rw [if_pos h2, if_pos (by omega)]
    exact e2
  have e4 : CC cs r c = row[c.toNat]'(by omega) := by
    unfold CC
    rw [e]
    show (atI row c).getD 0 = _
    rw [e3]
    rfl
  exact ⟨row, e, by rw [e4]; exact e3, by rw [e4]; exact h.ps row hm _ (List.getElem_mem (by omega))⟩
theorem cs_ix {r : Int} {row : List Int} (h : atI cs r = some row) {S : Sto} : gIx (.d (vC cs)) (.d (.int r)) S = some (.d (.list (row.map .int)), S) := by
  unfold vC
  rw [q_ixL, atI_map, atI_map, h]
  rfl
theorem row_ix {c x : Int} {row : List Int} (h : atI row c = some x) {S : Sto} : gIx (.d (.list (row.map .int))) (.d (.int c)) S = some (.d (.int x), S) := by
  rw [q_ixL, atI_map, atI_map, h]
  rfl
theorem mt_clc {s' : Ms} {W' : Sto} (hw : W.length = W'.length) (h : ∀ c ∈ W', ClC (S.length + 4 + W'.length) c) : ∀ (i : Nat) (c : Cell), (mtS S cs n s' W')[i]? = some c → (mtS S cs n s W)[i]? = some c ∨ ClC (mtS S cs n s' W').length c := by
  unfold mtS
  refine clc_app (by simp [mtL, hw]) fun c hc => ?_
  have e : S.length + (mtL cs n S.length s' ++ W').length = S.length + 4 + W'.length := by
    unfold mtL
    simp only [List.length_append, List.length_cons, List.length_nil]
    omega
  rw [e]
  rcases List.mem_append.mp hc with q | q
  · unfold mtL at q
    simp only [List.mem_cons, List.not_mem_nil, or_false] at q
    rcases q with rfl | rfl | rfl | rfl
    · intro x hx
      unfold mtF at hx
      simp only [List.mem_cons, List.not_mem_nil, or_false] at hx
      rcases hx with rfl | rfl | rfl | rfl | rfl
      · trivial
      · trivial
      · show S.length + 1 < _; omega
      · show S.length + 2 < _; omega
      · show S.length + 3 < _; omega
    · exact clc_tc _ _ _
    · exact clc_tc _ _ _
    · exact clc_tc _ _ _
  · exact h c q
def cmV (kv : List (Int × Int)) : List (Int × Val) := kv.map fun p => (p.1, .d (.int p.2))
def cmF (kv : List (Int × Int)) (c : Int) : Option Int := (kv.find? fun p => decide (p.1 = c)).map Prod.snd
theorem lk_cm (kv : List (Int × Int)) (c : Int) : lkI (cmV kv) c = (cmF kv c).map fun r => Val.d (.int r) := by
  unfold lkI cmV cmF
  induction kv with
  | nil => rfl
  | cons p t ih =>
    rw [List.map_cons, List.find?_cons, List.find?_cons]
    by_cases e : p.1 = c
    · simp [e]
    · simp only [decide_eq_false e]
      exact ih
theorem cm_keys (kv : List (Int × Int)) : (cmV kv).map Prod.fst = kv.map Prod.fst := by
  unfold cmV
  rw [List.map_map]
  rfl
theorem cm_app {kv : List (Int × Int)} {k r : Int} (h : k ∉ kv.map Prod.fst) : cmF (kv ++ [(k, r)]) = upd1 (cmF kv) k r := by
  funext c
  unfold cmF upd1
  rw [List.find?_append]
  by_cases e : c = k
  · subst e
    rw [if_pos rfl]
    have e1 : kv.find? (fun p => decide (p.1 = c)) = none := by
      rw [List.find?_eq_none]
      intro p hp z
      exact h (List.mem_map.mpr ⟨p, hp, of_decide_eq_true z⟩)
    rw [e1]
    simp
  · rw [if_neg e]
    have e2 : ([(k, r)] : List (Int × Int)).find? (fun p => decide (p.1 = c)) = none := by
      rw [List.find?_cons]
      simp [Ne.symm e]
    rw [e2, Option.or_none]
theorem clc_cm (kv : List (Int × Int)) (m : Nat) : ClC m (cI (cmV kv)) := fun p hp => by
  unfold cmV at hp
  simp only [List.map_map, List.mem_map] at hp
  obtain ⟨q, _, rfl⟩ := hp
  exact trivial
end

end QW

namespace QW
open PySem PySem.Spec PyProof.Rows L2 QL
section
variable {S W : Sto} {cs : List (List Int)} {n : Nat} {s : Ms}
theorem slack_c (h : CsOk cs n) {r c : Int} (h0 : 0 ≤ r) (h1 : r < cs.length) (h2 : 0 ≤ c) (h3 : c < n) (hw : ∀ c ∈ W, ClC (S.length + 4 + W.length) c) :
    p_Matching_slack_at [.c S.length, .d (.int r), .d (.int c)] (mtS S cs n s W) = some (.d (.int (CC cs r c - s.u r - s.v c)), mtS S cs n s W) := by
  unfold p_Matching_slack_at
  refine w_fnM rfl (mt_clc rfl hw) ?_
  show QL.wpS (f_Matching_slack_at [some (.c S.length), some (.d (.int r)), some (.d (.int c))] _) _
  unfold f_Matching_slack_at
  obtain ⟨row, e1, e2, _⟩ := cs_cell h h0 h1 h2 h3
  (try simp only [st0, st1, st2, st3, st4, st5, st6, w_forC, w_forN, x_jZm, x_par3, kPar3_eq, x_iZx, zx_L, zx_T, zx_LT, zx_TL, w_gSubD, q_addJ, x_iDk, w_augS, w_aug, x_slT, q_dk, q_dt, w_dp, w_md, eVar, isT, tyN, isNo, gsN, wipeR, kSq, viewL, viewS, reduceIte, reduceCtorEq, Nat.reduceAdd, String.reduceBEq, Int.reducePow, Int.reduceLT, Int.reduceLE, Nat.reduceLT, Nat.reduceLeDiff, Int.reduceToNat, List.getElem?_cons_zero, List.getElem?_cons_succ, List.set_cons_zero, List.set_cons_succ, List.length_cons, List.length_nil, if_true, Option.map_some, if_false, forall_const, List.length_map, Option.some.injEq, exists_eq_left', exists_eq_left, List.any_cons, List.any_nil, beq_self_eq_true, Option.isSome_some, exists_eq, exists_eq', x_eAt, ma_costs, ma_u, ma_v, cs_ix e1, row_ix e2, mx_u h0 h1, mx_v h2 h3])
  exact ⟨[], (List.append_nil _).symm⟩
theorem mx_loop {f : Int → Int} {rows : List Int} {i : Nat} {x d : Int} (hn : rows.Nodup) (hx : rows[i]? = some x) : upd1 (fun r => if r ∈ rows.take i then f r + d else f r) x ((if x ∈ rows.take i then f x + d else f x) + d) = fun r => if r ∈ rows.take (i + 1) then f r + d else f r := by
  have e : rows.take (i + 1) = rows.take i ++ [x] := by rw [List.take_add_one, hx]; rfl
  have hni : x ∉ rows.take i := fun z => by
    have h2 := hn
    rw [← List.take_append_drop (i + 1) rows, e] at h2
    have h3 := (List.nodup_append.mp h2).1
    exact (List.nodup_append.mp h3).2.2 x z x (by simp) rfl
  funext r
  unfold upd1
  rw [e]
  by_cases z : r = x
  · subst z
    rw [if_pos rfl, if_neg hni, if_pos (by simp)]
  · rw [if_neg z]
    dsimp only
    by_cases z2 : r ∈ rows.take i
    · rw [if_pos z2, if_pos (List.mem_append_left _ z2)]
    · rw [if_neg z2, if_neg (fun q => by rcases List.mem_append.mp q with q | q; exact z2 q; exact z (List.mem_singleton.mp q))]
theorem raise_c (h : CsOk cs n) {d : Int} {rows ms : List Int} (hr : ∀ r ∈ rows, 0 ≤ r ∧ r < cs.length) (hm : ∀ c ∈ ms, 0 ≤ c ∧ c < n) (nr : rows.Nodup) (nm : ms.Nodup) (lr : rows.length < 100000) (lm : ms.length < 100000) (hw : ∀ c ∈ W, ClC (S.length + 4 + (tc PyData.int rows :: tc PyData.int ms :: W).length) c) :
    p_Matching_raise_by [.c S.length, .d (.int d), .c (S.length + 5), .c (S.length + 4)] (mtS S cs n s (tc PyData.int rows :: tc PyData.int ms :: W)) = some (.d .none, mtS S cs n (raiseM d ms rows s) (tc PyData.int rows :: tc PyData.int ms :: W)) := by
  unfold p_Matching_raise_by
  refine w_fnM (by rw [mt_len, mt_len]) (mt_clc rfl fun c hc => ?_) ?_
  · rcases List.mem_cons.mp hc with rfl | hc
    · exact clc_tc _ _ _
    · rcases List.mem_cons.mp hc with rfl | hc
      · exact clc_tc _ _ _
      · exact hw c hc
  show QL.wpS (f_Matching_raise_by [some (.c S.length), some (.d (.int d)), some (.c (S.length + 5)), some (.c (S.length + 4)), none, none] _) _
  unfold f_Matching_raise_by
  rw [w_seq]
  have v4 : ∀ s : Ms, (viewQ (mtS S cs n s (tc PyData.int rows :: tc PyData.int ms :: W)) (.c (S.length + 4))).isSome = true := fun s => by rw [tc_vQ mt_4]; rfl
  have v5 : ∀ s : Ms, (viewQ (mtS S cs n s (tc PyData.int rows :: tc PyData.int ms :: W)) (.c (S.length + 5))).isSome = true := fun s => by rw [tc_vQ mt_5]; rfl
  (try simp only [st0, st1, st2, st3, st4, st5, st6, w_forC, w_forN, x_jZm, x_par3, kPar3_eq, x_iZx, zx_L, zx_T, zx_LT, zx_TL, w_gSubD, q_addJ, x_iDk, w_augS, w_aug, x_slT, q_dk, q_dt, w_dp, w_md, eVar, isT, tyN, isNo, gsN, wipeR, kSq, viewL, viewS, reduceIte, reduceCtorEq, Nat.reduceAdd, String.reduceBEq, Int.reducePow, Int.reduceLT, Int.reduceLE, Nat.reduceLT, Nat.reduceLeDiff, Int.reduceToNat, List.getElem?_cons_zero, List.getElem?_cons_succ, List.set_cons_zero, List.set_cons_succ, List.length_cons, List.length_nil, if_true, Option.map_some, if_false, forall_const, List.length_map, Option.some.injEq, exists_eq_left', exists_eq_left, List.any_cons, List.any_nil, beq_self_eq_true, Option.isSome_some, exists_eq, exists_eq', v4])
  obtain ⟨I, hI⟩ : ∃ X : Nat → Rho → Sto → Prop, X = fun (i : Nat) (ρ : Rho) (S' : Sto) => ∃ u : Option Val, ρ = [some (.c S.length), some (.d (.int d)), some (.c (S.length + 5)), some (.c (S.length + 4)), u, none] ∧ S' = mtS S cs n { s with u := fun r => if r ∈ rows.take i then s.u r + d else s.u r } (tc PyData.int rows :: tc PyData.int ms :: W) := ⟨_, rfl⟩
  refine w_loopD I (items := rows.map fun x => Val.d (.int x)) (by rw [List.length_map]; omega) (by rw [hI]; exact ⟨none, rfl, by simp⟩) ?_ ?_ ?_
  · intro i ρ S1 q
    rw [hI] at q
    obtain ⟨u, rfl, rfl⟩ := q
    exact dSeq_tc mt_4 i
  · intro i x ρ S1 hx q
    rw [hI] at q
    obtain ⟨u, rfl, rfl⟩ := q
    rw [List.getElem?_map] at hx
    obtain ⟨x, hx2, rfl⟩ := Option.map_eq_some_iff.mp hx
    have hxr := hr x (List.mem_of_getElem? hx2)
    (try simp only [st0, st1, st2, st3, st4, st5, st6, w_forC, w_forN, x_jZm, x_par3, kPar3_eq, x_iZx, zx_L, zx_T, zx_LT, zx_TL, w_gSubD, q_addJ, x_iDk, w_augS, w_aug, x_slT, q_dk, q_dt, w_dp, w_md, eVar, isT, tyN, isNo, gsN, wipeR, kSq, viewL, viewS, reduceIte, reduceCtorEq, Nat.reduceAdd, String.reduceBEq, Int.reducePow, Int.reduceLT, Int.reduceLE, Nat.reduceLT, Nat.reduceLeDiff, Int.reduceToNat, List.getElem?_cons_zero, List.getElem?_cons_succ, List.set_cons_zero, List.set_cons_succ, List.length_cons, List.length_nil, if_true, Option.map_some, if_false, forall_const, List.length_map, Option.some.injEq, exists_eq_left', exists_eq_left, List.any_cons, List.any_nil, beq_self_eq_true, Option.isSome_some, exists_eq, exists_eq', x_eAt, ma_u, mx_u hxr.1 hxr.2, my_u hxr.1 hxr.2])
    rw [hI]
    refine ⟨_, rfl, ?_⟩
    rw [← mx_loop nr hx2]
  · intro ρ S1 q
    rw [hI] at q
    obtain ⟨u, rfl, rfl⟩ := q
    rw [List.length_map, List.take_length]
    (try simp only [st0, st1, st2, st3, st4, st5, st6, w_forC, w_forN, x_jZm, x_par3, kPar3_eq, x_iZx, zx_L, zx_T, zx_LT, zx_TL, w_gSubD, q_addJ, x_iDk, w_augS, w_aug, x_slT, q_dk, q_dt, w_dp, w_md, eVar, isT, tyN, isNo, gsN, wipeR, kSq, viewL, viewS, reduceIte, reduceCtorEq, Nat.reduceAdd, String.reduceBEq, Int.reducePow, Int.reduceLT, Int.reduceLE, Nat.reduceLT, Nat.reduceLeDiff, Int.reduceToNat, List.getElem?_cons_zero, List.getElem?_cons_succ, List.set_cons_zero, List.set_cons_succ, List.length_cons, List.length_nil, if_true, Option.map_some, if_false, forall_const, List.length_map, Option.some.injEq, exists_eq_left', exists_eq_left, List.any_cons, List.any_nil, beq_self_eq_true, Option.isSome_some, exists_eq, exists_eq', v5])
    obtain ⟨J, hJ⟩ : ∃ X : Nat → Rho → Sto → Prop, X = fun (i : Nat) (ρ : Rho) (S' : Sto) => ∃ u w : Option Val, ρ = [some (.c S.length), some (.d (.int d)), some (.c (S.length + 5)), some (.c (S.length + 4)), u, w] ∧ S' = mtS S cs n { s with u := fun r => if r ∈ rows then s.u r + d else s.u r, v := fun c => if c ∈ ms.take i then s.v c + -d else s.v c } (tc PyData.int rows :: tc PyData.int ms :: W) := ⟨_, rfl⟩
    refine w_loopD J (items := ms.map fun x => Val.d (.int x)) (by rw [List.length_map]; omega) (by rw [hJ]; exact ⟨u, none, rfl, by simp⟩) ?_ ?_ ?_
    · intro i ρ S1 q
      rw [hJ] at q
      obtain ⟨u, w, rfl, rfl⟩ := q
      exact dSeq_tc mt_5 i
    · intro i x ρ S1 hx q
      rw [hJ] at q
      obtain ⟨u, w, rfl, rfl⟩ := q
      rw [List.getElem?_map] at hx
      obtain ⟨x, hx2, rfl⟩ := Option.map_eq_some_iff.mp hx
      have hxr := hm x (List.mem_of_getElem? hx2)
      (try simp only [st0, st1, st2, st3, st4, st5, st6, w_forC, w_forN, x_jZm, x_par3, kPar3_eq, x_iZx, zx_L, zx_T, zx_LT, zx_TL, w_gSubD, q_addJ, x_iDk, w_augS, w_aug, x_slT, q_dk, q_dt, w_dp, w_md, eVar, isT, tyN, isNo, gsN, wipeR, kSq, viewL, viewS, reduceIte, reduceCtorEq, Nat.reduceAdd, String.reduceBEq, Int.reducePow, Int.reduceLT, Int.reduceLE, Nat.reduceLT, Nat.reduceLeDiff, Int.reduceToNat, List.getElem?_cons_zero, List.getElem?_cons_succ, List.set_cons_zero, List.set_cons_succ, List.length_cons, List.length_nil, if_true, Option.map_some, if_false, forall_const, List.length_map, Option.some.injEq, exists_eq_left', exists_eq_left, List.any_cons, List.any_nil, beq_self_eq_true, Option.isSome_some, exists_eq, exists_eq', x_eAt, ma_v, mx_v hxr.1 hxr.2, my_v hxr.1 hxr.2])
      rw [hJ]
      refine ⟨_, _, rfl, ?_⟩
      have e := mx_loop (f := s.v) (d := -d) nm hx2
      rw [← e]
      rfl
    · intro ρ S1 q
      rw [hJ] at q
      obtain ⟨u, w, rfl, rfl⟩ := q
      rw [List.length_map, List.take_length]
      exact ⟨.inr rfl, [], (List.append_nil _).symm⟩
end

end QW

namespace QW
open PySem PySem.Spec PyProof.Rows L2 QL
/-! ### the best free column -/
def v3i (t : Int × Int × Int) : PyData := .tuple [.int t.1, .int t.2.1, .int t.2.2]
theorem lt3_ne {x y : Int × Int × Int} (h : x.1 ≠ y.1) : PySem.W.dataLt (v3i x) (v3i y) = decide (x.1 < y.1) := by
  have hne : (Sum.inl x.1 : Int ⊕ List Nat) ≠ Sum.inl y.1 := fun z => h (Sum.inl.inj z)
  rw [← PySem.W.dataLt_int]
  unfold v3i
  rw [PySem.W.dataLt_tuple]
  simp only [PySem.W.toks_all_cons, PySem.W.keyToks, List.cons_append, List.nil_append]
  rw [PyProof.Rows.lex_self, PySem.W.lex_atom hne]
  rfl
theorem lt3_t {x y : Int × Int × Int} (h : PySem.W.dataLt (v3i x) (v3i y) = true) : x.1 ≤ y.1 := by
  by_cases e : x.1 = y.1
  · omega
  · rw [lt3_ne e, decide_eq_true_eq] at h
    omega
theorem lt3_f {x y : Int × Int × Int} (h : ¬ PySem.W.dataLt (v3i x) (v3i y) = true) : y.1 ≤ x.1 := by
  by_cases e : x.1 = y.1
  · omega
  · rw [lt3_ne e, decide_eq_true_eq] at h
    omega
theorem minD_v3 : ∀ (xs : List (Int × Int × Int)) (x : Int × Int × Int), ∃ t ∈ x :: xs, PySem.W.minD (v3i x) (xs.map v3i) = v3i t ∧ ∀ t' ∈ x :: xs, t.1 ≤ t'.1
  | [], x => ⟨x, by simp, rfl, by simp⟩
  | y :: ys, x => by
    have e : PySem.W.minD (v3i x) ((y :: ys).map v3i) = PySem.W.minD (if PySem.W.dataLt (v3i y) (v3i x) = true then v3i y else v3i x) (ys.map v3i) := rfl
    by_cases h : PySem.W.dataLt (v3i y) (v3i x) = true
    · rw [if_pos h] at e
      obtain ⟨t, h1, h2, h3⟩ := minD_v3 ys y
      have := lt3_t h
      refine ⟨t, List.mem_cons_of_mem _ h1, e.trans h2, fun t' ht => ?_⟩
      rcases List.mem_cons.mp ht with rfl | ht
      · have := h3 y (by simp); omega
      · exact h3 t' ht
    · rw [if_neg h] at e
      obtain ⟨t, h1, h2, h3⟩ := minD_v3 ys x
      have := lt3_f h
      refine ⟨t, ?_, e.trans h2, fun t' ht => ?_⟩
      · rcases List.mem_cons.mp h1 with rfl | h1
        · simp
        · exact List.mem_cons_of_mem _ (List.mem_cons_of_mem _ h1)
      · rcases List.mem_cons.mp ht with rfl | ht
        · exact h3 _ (by simp)
        · rcases List.mem_cons.mp ht with rfl | ht
          · have := h3 x (by simp); omega
          · exact h3 t' (List.mem_cons_of_mem _ ht)
theorem min3_ok (xs : List (Int × Int × Int)) : MinOk (xs.map v3i) := by
  refine ⟨fun d hd d' hd' => ?_, fun d hd => ?_, fun d hd => ?_⟩
  · obtain ⟨x, _, rfl⟩ := List.mem_map.mp hd
    obtain ⟨y, _, rfl⟩ := List.mem_map.mp hd'
    simp [v3i, PySem.W.alike, PySem.W.alikeAll]
  · obtain ⟨x, _, rfl⟩ := List.mem_map.mp hd
    exact fun z => nomatch z
  · obtain ⟨x, _, rfl⟩ := List.mem_map.mp hd
    simp [v3i, PyData.depth, PyData.depthAll]
def freeM (n : Nat) (ms : List Int) : List Int := (rngI n).filter fun k => !decide (k ∈ ms)
def tripM (cs : List (List Int)) (n : Nat) (s : Ms) (ms : List Int) (r : Int) : List (Int × Int × Int) := (freeM n ms).map fun k => (CC cs r k - s.u r - s.v k, k, r)
theorem free_mem {n : Nat} {ms : List Int} {k : Int} : k ∈ freeM n ms ↔ (0 ≤ k ∧ k < n) ∧ k ∉ ms := by
  unfold freeM
  rw [List.mem_filter, rngI_mem]
  simp
theorem free_len (n : Nat) (ms : List Int) : (freeM n ms).length ≤ n := by
  unfold freeM
  exact Nat.le_trans (List.length_filter_le _ _) (by rw [rngI_len]; exact Nat.le_refl _)
theorem fm_len {α β : Type} {xs : List α} {f : α → List β} {b : Nat} (h : ∀ x, (f x).length ≤ b) : (xs.flatMap f).length ≤ xs.length * b := by
  induction xs with
  | nil => simp
  | cons x t ih =>
    rw [List.flatMap_cons, List.length_append, List.length_cons, Nat.succ_mul]
    have := h x
    omega
section
variable {S W : Sto} {cs : List (List Int)} {n : Nat} {s : Ms}
theorem best_c (h : CsOk cs n) {rows ms : List Int} (hr : ∀ r ∈ rows, 0 ≤ r ∧ r < cs.length) (lr : rows.length ≤ 1001) (hne : ∃ t, t ∈ rows.flatMap (tripM cs n s ms)) :
    ∃ d k r, (∀ (S : Sto) (C : Cell), (∀ m, ClC m C) → p_Matching_best_free [.c S.length, .c (S.length + 4), .c (S.length + 5)] (mtS S cs n s [tc PyData.int rows, tc PyData.int ms, C]) = some (.d (v3i (d, k, r)), mtS S cs n s [tc PyData.int rows, tc PyData.int ms, C])) ∧
      (0 ≤ k ∧ k < n) ∧ k ∉ ms ∧ r ∈ rows ∧ d = CC cs r k - s.u r - s.v k ∧ ∀ r' ∈ rows, ∀ k' : Int, 0 ≤ k' → k' < n → k' ∉ ms → d ≤ CC cs r' k' - s.u r' - s.v k' := by
  have hn := h.n1
  have hlen : ∀ p : List Int, (p.flatMap (tripM cs n s ms)).length ≤ p.length * 1000 := fun p => fm_len fun x => by
    unfold tripM
    rw [List.length_map]
    have := free_len n ms
    omega
  obtain ⟨T, hT⟩ : ∃ T, T = rows.flatMap (tripM cs n s ms) := ⟨_, rfl⟩
  rw [← hT] at hne
  cases T with
  | nil => obtain ⟨t, ht⟩ := hne; cases ht
  | cons t0 T =>
  obtain ⟨⟨d, k, r⟩, hm, he, hmin⟩ := minD_v3 T t0
  have hmem : ∀ t : Int × Int × Int, t ∈ t0 :: T ↔ t.2.2 ∈ rows ∧ ((0 ≤ t.2.1 ∧ t.2.1 < n) ∧ t.2.1 ∉ ms) ∧ t.1 = CC cs t.2.2 t.2.1 - s.u t.2.2 - s.v t.2.1 := fun t => by
    rw [hT, List.mem_flatMap]
    unfold tripM
    constructor
    · rintro ⟨r', h1, h2⟩
      obtain ⟨k', h3, rfl⟩ := List.mem_map.mp h2
      exact ⟨h1, free_mem.mp h3, rfl⟩
    · rintro ⟨h1, h2, h3⟩
      refine ⟨t.2.2, h1, List.mem_map.mpr ⟨t.2.1, free_mem.mpr h2, ?_⟩⟩
      rw [← h3]
  obtain ⟨q1, q2, q3⟩ := (hmem _).mp hm
  refine ⟨d, k, r, fun S C hC => ?_, q2.1, q2.2, q1, q3, fun r' hr' k' k0 k1 k2 => hmin _ ((hmem (CC cs r' k' - s.u r' - s.v k', k', r')).mpr ⟨hr', ⟨⟨k0, k1⟩, k2⟩, rfl⟩)⟩
  have hcl : ∀ (W : Sto) (m : Nat), (∀ c ∈ W, ClC m c) → ∀ c ∈ tc PyData.int rows :: tc PyData.int ms :: C :: W, ClC m c := fun W m hW c hc => by
    rcases List.mem_cons.mp hc with rfl | hc
    · exact clc_tc _ _ _
    · rcases List.mem_cons.mp hc with rfl | hc
      · exact clc_tc _ _ _
      · rcases List.mem_cons.mp hc with rfl | hc
        · exact hC _
        · exact hW c hc
  unfold p_Matching_best_free
  refine w_fnM rfl (mt_clc rfl (hcl [] _ (by simp))) ?_
  show QL.wpS (f_Matching_best_free [some (.c S.length), some (.c (S.length + 4)), some (.c (S.length + 5)), none, none, none] _) _
  unfold f_Matching_best_free
  rw [w_seq]
  (try simp only [st0, st1, st2, st3, st4, st5, st6, w_forC, w_forN, x_jZm, x_par3, kPar3_eq, x_iZx, zx_L, zx_T, zx_LT, zx_TL, w_gSubD, q_addJ, x_iDk, w_augS, w_aug, x_slT, q_dk, q_dt, w_dp, w_md, eVar, isT, tyN, isNo, gsN, wipeR, kSq, viewL, viewS, reduceIte, reduceCtorEq, Nat.reduceAdd, String.reduceBEq, Int.reducePow, Int.reduceLT, Int.reduceLE, Nat.reduceLT, Nat.reduceLeDiff, Int.reduceToNat, List.getElem?_cons_zero, List.getElem?_cons_succ, List.set_cons_zero, List.set_cons_succ, List.length_cons, List.length_nil, if_true, Option.map_some, if_false, forall_const, List.length_map, Option.some.injEq, exists_eq_left', exists_eq_left, List.any_cons, List.any_nil, beq_self_eq_true, Option.isSome_some, exists_eq, exists_eq'])
  rw [mt_app, mt_len]
  have v4 : ∀ W, (viewQ (mtS S cs n s (tc PyData.int rows :: W)) (.c (S.length + 4))).isSome = true := fun W => by rw [tc_vQ mt_4]; rfl
  rw [w_seq]
  show QL.wpS (sForD _ _ _ _ (mtS S cs n s (tc PyData.int rows :: [tc PyData.int ms, C, tc v3i []]))) _
  (try simp only [st0, st1, st2, st3, st4, st5, st6, w_forC, w_forN, x_jZm, x_par3, kPar3_eq, x_iZx, zx_L, zx_T, zx_LT, zx_TL, w_gSubD, q_addJ, x_iDk, w_augS, w_aug, x_slT, q_dk, q_dt, w_dp, w_md, eVar, isT, tyN, isNo, gsN, wipeR, kSq, viewL, viewS, reduceIte, reduceCtorEq, Nat.reduceAdd, String.reduceBEq, Int.reducePow, Int.reduceLT, Int.reduceLE, Nat.reduceLT, Nat.reduceLeDiff, Int.reduceToNat, List.getElem?_cons_zero, List.getElem?_cons_succ, List.set_cons_zero, List.set_cons_succ, List.length_cons, List.length_nil, if_true, Option.map_some, if_false, forall_const, List.length_map, Option.some.injEq, exists_eq_left', exists_eq_left, List.any_cons, List.any_nil, beq_self_eq_true, Option.isSome_some, exists_eq, exists_eq', v4])
  obtain ⟨I, hI⟩ : ∃ X : Nat → Rho → Sto → Prop, X = fun (i : Nat) (ρ : Rho) (S' : Sto) => ∃ u w : Option Val, ρ = [some (.c S.length), some (.c (S.length + 4)), some (.c (S.length + 5)), some (.c (S.length + 7)), u, w] ∧ S' = mtS S cs n s [tc PyData.int rows, tc PyData.int ms, C, tc v3i ((rows.take i).flatMap (tripM cs n s ms))] := ⟨_, rfl⟩
  refine w_loopD I (items := rows.map fun x => Val.d (.int x)) (by rw [List.length_map]; omega) (by rw [hI]; exact ⟨none, none, rfl, by simp⟩) ?_ ?_ ?_
  · intro i ρ S1 q
    rw [hI] at q
    obtain ⟨u, w, rfl, rfl⟩ := q
    exact dSeq_tc mt_4 i
  · intro i x ρ S1 hx q
    rw [hI] at q
    obtain ⟨u, w, rfl, rfl⟩ := q
    rw [List.getElem?_map] at hx
    obtain ⟨x, hx2, rfl⟩ := Option.map_eq_some_iff.mp hx
    have hxr := hr x (List.mem_of_getElem? hx2)
    have hi := (List.getElem?_eq_some_iff.mp hx2).1
    have et : rows.take (i + 1) = rows.take i ++ [x] := by rw [List.take_add_one, hx2]; rfl
    have hlt := hlen (rows.take i)
    rw [List.length_take] at hlt
    have hle : min i rows.length ≤ 1001 := by omega
    have hmul : min i rows.length * 1000 ≤ 1001000 := by omega
    (try simp only [st0, st1, st2, st3, st4, st5, st6, w_forC, w_forN, x_jZm, x_par3, kPar3_eq, x_iZx, zx_L, zx_T, zx_LT, zx_TL, w_gSubD, q_addJ, x_iDk, w_augS, w_aug, x_slT, q_dk, q_dt, w_dp, w_md, eVar, isT, tyN, isNo, gsN, wipeR, kSq, viewL, viewS, reduceIte, reduceCtorEq, Nat.reduceAdd, String.reduceBEq, Int.reducePow, Int.reduceLT, Int.reduceLE, Nat.reduceLT, Nat.reduceLeDiff, Int.reduceToNat, List.getElem?_cons_zero, List.getElem?_cons_succ, List.set_cons_zero, List.set_cons_succ, List.length_cons, List.length_nil, if_true, Option.map_some, if_false, forall_const, List.length_map, Option.some.injEq, exists_eq_left', exists_eq_left, List.any_cons, List.any_nil, beq_self_eq_true, Option.isSome_some, exists_eq, exists_eq', mt_7, x_eAt, ma_many])
    refine ⟨by omega, ?_⟩
    rw [Int.toNat_natCast, rngD_I]
    refine ⟨by omega, ?_⟩
    refine w_lcFX (v := PyData.int) (fun k => !decide (k ∈ ms)) (fun k => v3i (CC cs x k - s.u x - s.v k, k, x)) (fun k hk => ?_) ?_
    · have hk2 := rngI_mem.mp hk
      have hin : ∀ neg, gIn neg (.d (.int k)) (.c (S.length + 5)) (mtS S cs n s [tc PyData.int rows, tc PyData.int ms, C, tc v3i ((rows.take i).flatMap (tripM cs n s ms))]) = _ := fun neg => encI.inC mt_5
      have hsl := slack_c (S := S) (W := [tc PyData.int rows, tc PyData.int ms, C, tc v3i ((rows.take i).flatMap (tripM cs n s ms))]) (s := s) h hxr.1 hxr.2 hk2.1 hk2.2 (hcl _ _ (by intro c hc; rw [List.mem_singleton.mp hc]; exact clc_tc _ _ _))
      (try simp only [st0, st1, st2, st3, st4, st5, st6, w_forC, w_forN, x_jZm, x_par3, kPar3_eq, x_iZx, zx_L, zx_T, zx_LT, zx_TL, w_gSubD, q_addJ, x_iDk, w_augS, w_aug, x_slT, q_dk, q_dt, w_dp, w_md, eVar, isT, tyN, isNo, gsN, wipeR, kSq, viewL, viewS, reduceIte, reduceCtorEq, Nat.reduceAdd, String.reduceBEq, Int.reducePow, Int.reduceLT, Int.reduceLE, Nat.reduceLT, Nat.reduceLeDiff, Int.reduceToNat, List.getElem?_cons_zero, List.getElem?_cons_succ, List.set_cons_zero, List.set_cons_succ, List.length_cons, List.length_nil, if_true, Option.map_some, if_false, forall_const, List.length_map, Option.some.injEq, exists_eq_left', exists_eq_left, List.any_cons, List.any_nil, beq_self_eq_true, Option.isSome_some, exists_eq, exists_eq', hin, x_eMeth])
      rw [mm_meth rfl]
      (try simp only [st0, st1, st2, st3, st4, st5, st6, w_forC, w_forN, x_jZm, x_par3, kPar3_eq, x_iZx, zx_L, zx_T, zx_LT, zx_TL, w_gSubD, q_addJ, x_iDk, w_augS, w_aug, x_slT, q_dk, q_dt, w_dp, w_md, eVar, isT, tyN, isNo, gsN, wipeR, kSq, viewL, viewS, reduceIte, reduceCtorEq, Nat.reduceAdd, String.reduceBEq, Int.reducePow, Int.reduceLT, Int.reduceLE, Nat.reduceLT, Nat.reduceLeDiff, Int.reduceToNat, List.getElem?_cons_zero, List.getElem?_cons_succ, List.set_cons_zero, List.set_cons_succ, List.length_cons, List.length_nil, if_true, Option.map_some, if_false, forall_const, List.length_map, Option.some.injEq, exists_eq_left', exists_eq_left, List.any_cons, List.any_nil, beq_self_eq_true, Option.isSome_some, exists_eq, exists_eq', hsl])
      exact fun _ => rfl
    · have e1 : (((rngI n).filter fun k => !decide (k ∈ ms)).map fun k => v3i (CC cs x k - s.u x - s.v k, k, x)) = (tripM cs n s ms x).map v3i := by
        unfold tripM freeM
        rw [List.map_map]
        rfl
      have hx3 : (tripM cs n s ms x).length ≤ 1000 := by
        unfold tripM
        rw [List.length_map]
        have := free_len n ms
        omega
      rw [e1, alloc_D, wp_some, tc_ext (ys := tripM cs n s ms x) mt_7 rfl (by omega), ms_7, wp_some, hI]
      refine ⟨_, _, rfl, ?_⟩
      rw [et, List.flatMap_append]
      simp
  · intro ρ S1 q
    rw [hI] at q
    obtain ⟨u, w, rfl, rfl⟩ := q
    rw [List.length_map, List.take_length, ← hT]
    simp only [st0, st1, st2, st3, st4, st5, st6, w_seq, w_if, w_forC, w_forN, x_jZm, x_par3, kPar3_eq, x_iZx, zx_L, zx_T, zx_LT, zx_TL, w_gSubD, q_addJ, x_iDk, w_augS, w_aug, x_slT, q_dk, q_dt, w_dp, w_md, eVar, isT, tyN, isNo, gsN, wipeR, kSq, viewL, viewS, reduceIte, reduceCtorEq, Nat.reduceAdd, String.reduceBEq, Int.reducePow, Int.reduceLT, Int.reduceLE, Nat.reduceLT, Nat.reduceLeDiff, Int.reduceToNat, List.getElem?_cons_zero, List.getElem?_cons_succ, List.set_cons_zero, List.set_cons_succ, List.length_cons, List.length_nil, if_true, Option.map_some, if_false, forall_const, List.length_map, Option.some.injEq, exists_eq_left', exists_eq_left, List.any_cons, List.any_nil, beq_self_eq_true, Option.isSome_some, exists_eq, exists_eq', tc_frz mt_7, ms_7]
    rw [minL_eq (a := .d (.list ((t0 :: T).map v3i))) (xs := ((t0 :: T).map v3i).map Val.d) rfl (unD_d _) (min3_ok (t0 :: T)), he, wp_some]
    exact ⟨rfl, [.frz (.list ((t0 :: T).map v3i))], (mt_app (W := [tc PyData.int rows, tc PyData.int ms, C]) (T := [.frz (.list ((t0 :: T).map v3i))])).symm⟩
end

end QW

namespace QW
open PySem PySem.Spec PyProof.Rows L2 QL
section
variable {S W : Sto} {cs : List (List Int)} {n : Nat} {s : Ms} {g : Int}
theorem canO : ∀ xs : List (Option Int), PyData.canLayAll0 (xs.map oD) = true
  | [] => rfl
  | x :: xs => by
    rw [List.map_cons, PyData.canLayAll0, canO xs, Bool.and_true]
    cases x <;> rfl
theorem place_ex {α : Type} [DecidableEq α] {v : α → PyData} (h : Enc v) {xs : List α} {x : α} (hx : x ∈ xs) : ∃ i : Nat, SeqAt.dataPlace (xs.map v) (v x) = some i ∧ xs[i]? = some x := by
  refine ⟨_, h.place hx, ?_⟩
  rw [List.getElem?_eq_getElem (List.idxOf_lt_length_iff.mpr hx), List.getElem_idxOf]
theorem gidx_o {S : Sto} {k : Nat} {O : Int → Option Int} {n : Nat} {c r : Int} (ha : S[k]? = some (tc oD ((rngI n).map O))) (h0 : 0 ≤ c) (h1 : c < n) (hc : O c = some r) (hu : ∀ c', O c' = some r → c' = c) : gIndex (.c k) [.d (.int r)] S = some (.d (.int c), S) := by
  have hm : some r ∈ (rngI n).map O := List.mem_map.mpr ⟨c, rngI_mem.mpr ⟨h0, h1⟩, hc⟩
  obtain ⟨i, hp, hg⟩ := place_ex encO hm
  have hl := (List.getElem?_eq_some_iff.mp hg).1
  rw [List.length_map, rngI_len] at hl
  rw [List.getElem?_map] at hg
  have e2 : (rngI n)[i]? = some (i : Int) := by
    have := rng_at (n := n) (i := (i : Int)) (by omega) (by omega)
    simpa using this
  rw [e2] at hg
  have e3 : O (i : Int) = some r := Option.some.inj hg
  have e4 := hu _ e3
  unfold gIndex
  simp only [look_c ha, look_d]
  have s1 : SeqAt.shaped (.list (((rngI n).map O).map oD)) = true := by
    unfold SeqAt.shaped
    have hd : (PyData.list (((rngI n).map O).map oD)).depth ≤ 64 := by
      have := encO.dpAll ((rngI n).map O)
      show PyData.depthAll _ + 1 ≤ 64
      omega
    rw [decide_eq_true hd, Bool.and_true]
    show PyData.canLayAll0 _ = true
    exact canO _
  have s2 : SeqAt.shaped (.int r) = true := rfl
  rw [if_pos ⟨s1, s2⟩]
  have hp2 : SeqAt.dataPlace (((rngI n).map O).map oD) (.int r) = some i := hp
  rw [hp2]
  show some (Val.d (.int (i : Int)), S) = _
  rw [e4]
theorem col_none (hw : ∀ c ∈ W, ClC (S.length + 4 + W.length) c) {r : Int} (hr : ∀ c, s.ow c ≠ some r) : p_Matching_column_of [.c S.length, .d (.int r)] (mtS S cs n s W) = some (.d .none, mtS S cs n s W) := by
  unfold p_Matching_column_of
  refine w_fnM rfl (mt_clc rfl hw) ?_
  show QL.wpS (f_Matching_column_of [some (.c S.length), some (.d (.int r))] _) _
  unfold f_Matching_column_of
  have hin : ∀ neg, gIn neg (.d (.int r)) (.c (S.length + 3)) (mtS S cs n s W) = _ := fun neg => encO.inC (x := some r) mt_3
  have hd : ¬ some r ∈ (rngI n).map s.ow := fun z => by
    obtain ⟨c, _, e⟩ := List.mem_map.mp z
    exact hr c e
  (try simp only [st0, st1, st2, st3, st4, st5, st6, w_forC, w_forN, x_jZm, x_par3, kPar3_eq, x_iZx, zx_L, zx_T, zx_LT, zx_TL, w_gSubD, q_addJ, x_iDk, w_augS, w_aug, x_slT, q_dk, q_dt, w_dp, w_md, eVar, isT, tyN, isNo, gsN, wipeR, kSq, viewL, viewS, reduceIte, reduceCtorEq, Nat.reduceAdd, String.reduceBEq, Int.reducePow, Int.reduceLT, Int.reduceLE, Nat.reduceLT, Nat.reduceLeDiff, Int.reduceToNat, List.getElem?_cons_zero, List.getElem?_cons_succ, List.set_cons_zero, List.set_cons_succ, List.length_cons, List.length_nil, if_true, Option.map_some, if_false, forall_const, List.length_map, Option.some.injEq, exists_eq_left', exists_eq_left, List.any_cons, List.any_nil, beq_self_eq_true, Option.isSome_some, exists_eq, exists_eq', x_eAt, ma_ow, hin, hd])
  exact ⟨[], (List.append_nil _).symm⟩
theorem col_some (hw : ∀ c ∈ W, ClC (S.length + 4 + W.length) c) {r c : Int} (h0 : 0 ≤ c) (h1 : c < n) (hc : s.ow c = some r) (hu : ∀ c', s.ow c' = some r → c' = c) : p_Matching_column_of [.c S.length, .d (.int r)] (mtS S cs n s W) = some (.d (.int c), mtS S cs n s W) := by
  unfold p_Matching_column_of
  refine w_fnM rfl (mt_clc rfl hw) ?_
  show QL.wpS (f_Matching_column_of [some (.c S.length), some (.d (.int r))] _) _
  unfold f_Matching_column_of
  have hin : ∀ neg, gIn neg (.d (.int r)) (.c (S.length + 3)) (mtS S cs n s W) = _ := fun neg => encO.inC (x := some r) mt_3
  have hd : some r ∈ (rngI n).map s.ow := List.mem_map.mpr ⟨c, rngI_mem.mpr ⟨h0, h1⟩, hc⟩
  have hix := gidx_o (S := mtS S cs n s W) mt_3 h0 h1 hc hu
  (try simp only [st0, st1, st2, st3, st4, st5, st6, w_forC, w_forN, x_jZm, x_par3, kPar3_eq, x_iZx, zx_L, zx_T, zx_LT, zx_TL, w_gSubD, q_addJ, x_iDk, w_augS, w_aug, x_slT, q_dk, q_dt, w_dp, w_md, eVar, isT, tyN, isNo, gsN, wipeR, kSq, viewL, viewS, reduceIte, reduceCtorEq, Nat.reduceAdd, String.reduceBEq, Int.reducePow, Int.reduceLT, Int.reduceLE, Nat.reduceLT, Nat.reduceLeDiff, Int.reduceToNat, List.getElem?_cons_zero, List.getElem?_cons_succ, List.set_cons_zero, List.set_cons_succ, List.length_cons, List.length_nil, if_true, Option.map_some, if_false, forall_const, List.length_map, Option.some.injEq, exists_eq_left', exists_eq_left, List.any_cons, List.any_nil, beq_self_eq_true, Option.isSome_some, exists_eq, exists_eq', x_eAt, ma_ow, hin, hd, mt_3])
  rw [hix, wp_some]
  exact ⟨rfl, [], (List.append_nil _).symm⟩
noncomputable def colF (O : Int → Option Int) (r : Int) : Int := by
  classical exact if h : ∃ c, O c = some r then h.choose else 0
theorem colF_eq {O : Int → Option Int} {r c : Int} (h : O c = some r) (hu : ∀ c', O c' = some r → c' = c) : colF O r = c := by
  have he : ∃ c, O c = some r := ⟨c, h⟩
  unfold colF
  rw [dif_pos he]
  exact hu _ he.choose_spec
noncomputable def itO (kv : List (Int × Int)) (x : (Int → Option Int) × Int) : Nat → (Int → Option Int) × Int
  | 0 => x
  | j + 1 => (upd1 (itO kv x j).1 (itO kv x j).2 (some ((cmF kv (itO kv x j).2).getD 0)), colF (itO kv x j).1 ((cmF kv (itO kv x j).2).getD 0))
theorem first_eq {P : Nat → Prop} {i j : Nat} (hi : P i) (hj : P j) (ni : ∀ k, k < i → ¬ P k) (nj : ∀ k, k < j → ¬ P k) : i = j := by
  rcases Nat.lt_trichotomy i j with h | h | h
  · exact absurd hi (nj i h)
  · exact h
  · exact absurd hj (ni j h)
def EndO (kv : List (Int × Int)) (g : Int) (x : (Int → Option Int) × Int) (j : Nat) : Prop := cmF kv (itO kv x j).2 = some g
theorem give_one (h : CsOk cs n) {a b : Cell} {kv : List (Int × Int)} {ms : List Int} {c0 : Int} (d : Du (CC cs) cs.length n g s) (g0 : 0 ≤ g) (hb : Gb (CC cs) n g s (cmF kv) s.ow ms c0) (hl : ms.length < 10000) (ha : ∀ m, ClC m a) (hb' : ∀ m, ClC m b) :
    ∃ j O, EndO kv g (s.ow, c0) j ∧ (∀ j', j' < j → ¬ EndO kv g (s.ow, c0) j') ∧ O = (itO kv (s.ow, c0) (j + 1)).1 ∧ p_Matching_give_back [.c S.length, .d (.int c0), .c (S.length + 6), .d (.int g)] (mtS S cs n s [a, b, cI (cmV kv)]) = some (.d .none, mtS S cs n { s with ow := O } [a, b, cI (cmV kv)]) ∧ Du (CC cs) cs.length n (g + 1) { s with ow := O } := by
  have hW : ∀ m, ∀ c ∈ [a, b, cI (cmV kv)], ClC m c := fun m c hc => by
    simp only [List.mem_cons, List.not_mem_nil, or_false] at hc
    rcases hc with rfl | rfl | rfl
    · exact ha m
    · exact hb' m
    · exact clc_cm kv m
  have hwp : QL.wpS (f_Matching_give_back [some (.c S.length), some (.d (.int c0)), some (.c (S.length + 6)), some (.d (.int g)), none, none] (mtS S cs n s [a, b, cI (cmV kv)])) fun fl _ S1 => ∃ j O, EndO kv g (s.ow, c0) j ∧ (∀ j', j' < j → ¬ EndO kv g (s.ow, c0) j') ∧ O = (itO kv (s.ow, c0) (j + 1)).1 ∧ fl = .nx ∧ Du (CC cs) cs.length n (g + 1) { s with ow := O } ∧ S1 = mtS S cs n { s with ow := O } [a, b, cI (cmV kv)] := by
    unfold f_Matching_give_back
    rw [w_seq]
    (try simp only [st0, st1, st2, st3, st4, st5, st6, w_forC, w_forN, x_jZm, x_par3, kPar3_eq, x_iZx, zx_L, zx_T, zx_LT, zx_TL, w_gSubD, q_addJ, x_iDk, w_augS, w_aug, x_slT, q_dk, q_dt, w_dp, w_md, eVar, isT, tyN, isNo, gsN, wipeR, kSq, viewL, viewS, reduceIte, reduceCtorEq, Nat.reduceAdd, String.reduceBEq, Int.reducePow, Int.reduceLT, Int.reduceLE, Nat.reduceLT, Nat.reduceLeDiff, Int.reduceToNat, List.getElem?_cons_zero, List.getElem?_cons_succ, List.set_cons_zero, List.set_cons_succ, List.length_cons, List.length_nil, if_true, Option.map_some, if_false, forall_const, List.length_map, Option.some.injEq, exists_eq_left', exists_eq_left, List.any_cons, List.any_nil, beq_self_eq_true, Option.isSome_some, exists_eq, exists_eq'])
    obtain ⟨I, hI⟩ : ∃ X : Nat → Rho → Sto → Prop, X = fun (i : Nat) (ρ : Rho) (S' : Sto) => (∃ (O : Int → Option Int) (pre : List Int) (at' : Int) (ow : Option Int) (u : Option Val) (j : Nat), (O, at') = itO kv (s.ow, c0) j ∧ (∀ j', j' < j → ¬ EndO kv g (s.ow, c0) j') ∧ ρ = [some (.c S.length), some (.d (.int at')), some (.c (S.length + 6)), some (.d (.int g)), some (.d (oD ow)), u] ∧ S' = mtS S cs n { s with ow := O } [a, b, cI (cmV kv)] ∧ ow ≠ some g ∧ Gb (CC cs) n g s (cmF kv) O pre at' ∧ pre.length + 1 ≤ i) ∨ (∃ (O : Int → Option Int) (x u : Option Val) (j : Nat), EndO kv g (s.ow, c0) j ∧ (∀ j', j' < j → ¬ EndO kv g (s.ow, c0) j') ∧ O = (itO kv (s.ow, c0) (j + 1)).1 ∧ ρ = [some (.c S.length), x, some (.c (S.length + 6)), some (.d (.int g)), some (.d (oD (some g))), u] ∧ S' = mtS S cs n { s with ow := O } [a, b, cI (cmV kv)] ∧ Du (CC cs) cs.length n (g + 1) { s with ow := O }) := ⟨_, rfl⟩
    refine w_while (ms.length + 1) I (by rw [hI]; exact .inl ⟨s.ow, ms, c0, none, none, 0, rfl, by simp, rfl, rfl, by simp, hb, Nat.le_refl _⟩) ?_ (by omega)
    intro i ρ S1 hh
    rw [hI] at hh
    rcases hh with ⟨O, pre, at', ow, u, j, hj, hnj, rfl, rfl, hne, hG, hi⟩ | ⟨O, x, u, j, hE, hnE, hO, rfl, rfl, hD⟩
    · have hgn : gNe (.d (oD ow)) (.d (.int g)) (mtS S cs n { s with ow := O } [a, b, cI (cmV kv)]) = _ := encO.gNe (x := ow) (y := some g)
      rw [decide_eq_false hne] at hgn
      obtain ⟨r, e1, e2, e3, e4⟩ := hG.look
      have j1 : (itO kv (s.ow, c0) j).1 = O := by rw [← hj]
      have j2 : (itO kv (s.ow, c0) j).2 = at' := by rw [← hj]
      have hst : itO kv (s.ow, c0) (j + 1) = (upd1 O at' (some r), colF O r) := by
        show (upd1 (itO kv (s.ow, c0) j).1 (itO kv (s.ow, c0) j).2 (some ((cmF kv (itO kv (s.ow, c0) j).2).getD 0)), colF (itO kv (s.ow, c0) j).1 ((cmF kv (itO kv (s.ow, c0) j).2).getD 0)) = _
        rw [j1, j2, e1]
        rfl
      have hdg : gDg (.c (S.length + 6)) (.d (.int at')) (mtS S cs n { s with ow := O } [a, b, cI (cmV kv)]) = some (.d (.int r), mtS S cs n { s with ow := O } [a, b, cI (cmV kv)]) := dg_of (by rw [dl_cI mt_6, lk_cm, e1]; rfl)
      (try simp only [st0, st1, st2, st3, st4, st5, st6, w_forC, w_forN, x_jZm, x_par3, kPar3_eq, x_iZx, zx_L, zx_T, zx_LT, zx_TL, w_gSubD, q_addJ, x_iDk, w_augS, w_aug, x_slT, q_dk, q_dt, w_dp, w_md, eVar, isT, tyN, isNo, gsN, wipeR, kSq, viewL, viewS, reduceIte, reduceCtorEq, Nat.reduceAdd, String.reduceBEq, Int.reducePow, Int.reduceLT, Int.reduceLE, Nat.reduceLT, Nat.reduceLeDiff, Int.reduceToNat, List.getElem?_cons_zero, List.getElem?_cons_succ, List.set_cons_zero, List.set_cons_succ, List.length_cons, List.length_nil, if_true, Option.map_some, if_false, forall_const, List.length_map, Option.some.injEq, exists_eq_left', exists_eq_left, List.any_cons, List.any_nil, beq_self_eq_true, Option.isSome_some, exists_eq, exists_eq', hgn])
      refine ⟨i - 1, by omega, ?_⟩
      rw [w_seq]
      (try simp only [st0, st1, st2, st3, st4, st5, st6, w_forC, w_forN, x_jZm, x_par3, kPar3_eq, x_iZx, zx_L, zx_T, zx_LT, zx_TL, w_gSubD, q_addJ, x_iDk, w_augS, w_aug, x_slT, q_dk, q_dt, w_dp, w_md, eVar, isT, tyN, isNo, gsN, wipeR, kSq, viewL, viewS, reduceIte, reduceCtorEq, Nat.reduceAdd, String.reduceBEq, Int.reducePow, Int.reduceLT, Int.reduceLE, Nat.reduceLT, Nat.reduceLeDiff, Int.reduceToNat, List.getElem?_cons_zero, List.getElem?_cons_succ, List.set_cons_zero, List.set_cons_succ, List.length_cons, List.length_nil, if_true, Option.map_some, if_false, forall_const, List.length_map, Option.some.injEq, exists_eq_left', exists_eq_left, List.any_cons, List.any_nil, beq_self_eq_true, Option.isSome_some, exists_eq, exists_eq', hdg])
      rw [w_seq]
      (try simp only [st0, st1, st2, st3, st4, st5, st6, w_forC, w_forN, x_jZm, x_par3, kPar3_eq, x_iZx, zx_L, zx_T, zx_LT, zx_TL, w_gSubD, q_addJ, x_iDk, w_augS, w_aug, x_slT, q_dk, q_dt, w_dp, w_md, eVar, isT, tyN, isNo, gsN, wipeR, kSq, viewL, viewS, reduceIte, reduceCtorEq, Nat.reduceAdd, String.reduceBEq, Int.reducePow, Int.reduceLT, Int.reduceLE, Nat.reduceLT, Nat.reduceLeDiff, Int.reduceToNat, List.getElem?_cons_zero, List.getElem?_cons_succ, List.set_cons_zero, List.set_cons_succ, List.length_cons, List.length_nil, if_true, Option.map_some, if_false, forall_const, List.length_map, Option.some.injEq, exists_eq_left', exists_eq_left, List.any_cons, List.any_nil, beq_self_eq_true, Option.isSome_some, exists_eq, exists_eq', x_eMeth])
      rw [mm_meth rfl]
      (try simp only [st0, st1, st2, st3, st4, st5, st6, w_forC, w_forN, x_jZm, x_par3, kPar3_eq, x_iZx, zx_L, zx_T, zx_LT, zx_TL, w_gSubD, q_addJ, x_iDk, w_augS, w_aug, x_slT, q_dk, q_dt, w_dp, w_md, eVar, isT, tyN, isNo, gsN, wipeR, kSq, viewL, viewS, reduceIte, reduceCtorEq, Nat.reduceAdd, String.reduceBEq, Int.reducePow, Int.reduceLT, Int.reduceLE, Nat.reduceLT, Nat.reduceLeDiff, Int.reduceToNat, List.getElem?_cons_zero, List.getElem?_cons_succ, List.set_cons_zero, List.set_cons_succ, List.length_cons, List.length_nil, if_true, Option.map_some, if_false, forall_const, List.length_map, Option.some.injEq, exists_eq_left', exists_eq_left, List.any_cons, List.any_nil, beq_self_eq_true, Option.isSome_some, exists_eq, exists_eq'])
      by_cases hr : r = g
      · subst hr
        rw [col_none (s := { s with ow := O }) (hW _) (fun c e => by have := (hG.st c r e).2; omega), wp_some]
        (try simp only [st0, st1, st2, st3, st4, st5, st6, w_forC, w_forN, x_jZm, x_par3, kPar3_eq, x_iZx, zx_L, zx_T, zx_LT, zx_TL, w_gSubD, q_addJ, x_iDk, w_augS, w_aug, x_slT, q_dk, q_dt, w_dp, w_md, eVar, isT, tyN, isNo, gsN, wipeR, kSq, viewL, viewS, reduceIte, reduceCtorEq, Nat.reduceAdd, String.reduceBEq, Int.reducePow, Int.reduceLT, Int.reduceLE, Nat.reduceLT, Nat.reduceLeDiff, Int.reduceToNat, List.getElem?_cons_zero, List.getElem?_cons_succ, List.set_cons_zero, List.set_cons_succ, List.length_cons, List.length_nil, if_true, Option.map_some, if_false, forall_const, List.length_map, Option.some.injEq, exists_eq_left', exists_eq_left, List.any_cons, List.any_nil, beq_self_eq_true, Option.isSome_some, exists_eq, exists_eq'])
        rw [w_seq]
        (try simp only [st0, st1, st2, st3, st4, st5, st6, w_forC, w_forN, x_jZm, x_par3, kPar3_eq, x_iZx, zx_L, zx_T, zx_LT, zx_TL, w_gSubD, q_addJ, x_iDk, w_augS, w_aug, x_slT, q_dk, q_dt, w_dp, w_md, eVar, isT, tyN, isNo, gsN, wipeR, kSq, viewL, viewS, reduceIte, reduceCtorEq, Nat.reduceAdd, String.reduceBEq, Int.reducePow, Int.reduceLT, Int.reduceLE, Nat.reduceLT, Nat.reduceLeDiff, Int.reduceToNat, List.getElem?_cons_zero, List.getElem?_cons_succ, List.set_cons_zero, List.set_cons_succ, List.length_cons, List.length_nil, if_true, Option.map_some, if_false, forall_const, List.length_map, Option.some.injEq, exists_eq_left', exists_eq_left, List.any_cons, List.any_nil, beq_self_eq_true, Option.isSome_some, exists_eq, exists_eq', x_eAt, ma_ow])
        have hset := my_ow (S := S) (cs := cs) (n := n) (s := { s with ow := O }) (W := [a, b, cI (cmV kv)]) (c := at') (x := some r) hG.ra.1 hG.ra.2
        rw [show setIx (.c (S.length + 3)) (.d (.int at')) (.d (.int r)) (mtS S cs n { s with ow := O } [a, b, cI (cmV kv)]) = _ from hset]
        (try simp only [st0, st1, st2, st3, st4, st5, st6, w_forC, w_forN, x_jZm, x_par3, kPar3_eq, x_iZx, zx_L, zx_T, zx_LT, zx_TL, w_gSubD, q_addJ, x_iDk, w_augS, w_aug, x_slT, q_dk, q_dt, w_dp, w_md, eVar, isT, tyN, isNo, gsN, wipeR, kSq, viewL, viewS, reduceIte, reduceCtorEq, Nat.reduceAdd, String.reduceBEq, Int.reducePow, Int.reduceLT, Int.reduceLE, Nat.reduceLT, Nat.reduceLeDiff, Int.reduceToNat, List.getElem?_cons_zero, List.getElem?_cons_succ, List.set_cons_zero, List.set_cons_succ, List.length_cons, List.length_nil, if_true, Option.map_some, if_false, forall_const, List.length_map, Option.some.injEq, exists_eq_left', exists_eq_left, List.any_cons, List.any_nil, beq_self_eq_true, Option.isSome_some, exists_eq, exists_eq'])
        rw [hI]
        exact .inr ⟨_, _, _, j, by unfold EndO; rw [j2]; exact e1, hnj, by rw [hst], rfl, rfl, hG.last d g0 e1⟩
      · obtain ⟨p, c', q, ep, eO, hu, hG2⟩ := hG.next d e1 hr
        have hcr := (hG.st c' r eO).1
        rw [col_some (s := { s with ow := O }) (hW _) hcr.1 hcr.2 eO hu, wp_some]
        (try simp only [st0, st1, st2, st3, st4, st5, st6, w_forC, w_forN, x_jZm, x_par3, kPar3_eq, x_iZx, zx_L, zx_T, zx_LT, zx_TL, w_gSubD, q_addJ, x_iDk, w_augS, w_aug, x_slT, q_dk, q_dt, w_dp, w_md, eVar, isT, tyN, isNo, gsN, wipeR, kSq, viewL, viewS, reduceIte, reduceCtorEq, Nat.reduceAdd, String.reduceBEq, Int.reducePow, Int.reduceLT, Int.reduceLE, Nat.reduceLT, Nat.reduceLeDiff, Int.reduceToNat, List.getElem?_cons_zero, List.getElem?_cons_succ, List.set_cons_zero, List.set_cons_succ, List.length_cons, List.length_nil, if_true, Option.map_some, if_false, forall_const, List.length_map, Option.some.injEq, exists_eq_left', exists_eq_left, List.any_cons, List.any_nil, beq_self_eq_true, Option.isSome_some, exists_eq, exists_eq'])
        rw [w_seq]
        (try simp only [st0, st1, st2, st3, st4, st5, st6, w_forC, w_forN, x_jZm, x_par3, kPar3_eq, x_iZx, zx_L, zx_T, zx_LT, zx_TL, w_gSubD, q_addJ, x_iDk, w_augS, w_aug, x_slT, q_dk, q_dt, w_dp, w_md, eVar, isT, tyN, isNo, gsN, wipeR, kSq, viewL, viewS, reduceIte, reduceCtorEq, Nat.reduceAdd, String.reduceBEq, Int.reducePow, Int.reduceLT, Int.reduceLE, Nat.reduceLT, Nat.reduceLeDiff, Int.reduceToNat, List.getElem?_cons_zero, List.getElem?_cons_succ, List.set_cons_zero, List.set_cons_succ, List.length_cons, List.length_nil, if_true, Option.map_some, if_false, forall_const, List.length_map, Option.some.injEq, exists_eq_left', exists_eq_left, List.any_cons, List.any_nil, beq_self_eq_true, Option.isSome_some, exists_eq, exists_eq', x_eAt, ma_ow])
        have hset := my_ow (S := S) (cs := cs) (n := n) (s := { s with ow := O }) (W := [a, b, cI (cmV kv)]) (c := at') (x := some r) hG.ra.1 hG.ra.2
        rw [show setIx (.c (S.length + 3)) (.d (.int at')) (.d (.int r)) (mtS S cs n { s with ow := O } [a, b, cI (cmV kv)]) = _ from hset]
        (try simp only [st0, st1, st2, st3, st4, st5, st6, w_forC, w_forN, x_jZm, x_par3, kPar3_eq, x_iZx, zx_L, zx_T, zx_LT, zx_TL, w_gSubD, q_addJ, x_iDk, w_augS, w_aug, x_slT, q_dk, q_dt, w_dp, w_md, eVar, isT, tyN, isNo, gsN, wipeR, kSq, viewL, viewS, reduceIte, reduceCtorEq, Nat.reduceAdd, String.reduceBEq, Int.reducePow, Int.reduceLT, Int.reduceLE, Nat.reduceLT, Nat.reduceLeDiff, Int.reduceToNat, List.getElem?_cons_zero, List.getElem?_cons_succ, List.set_cons_zero, List.set_cons_succ, List.length_cons, List.length_nil, if_true, Option.map_some, if_false, forall_const, List.length_map, Option.some.injEq, exists_eq_left', exists_eq_left, List.any_cons, List.any_nil, beq_self_eq_true, Option.isSome_some, exists_eq, exists_eq'])
        rw [hI]
        refine .inl ⟨_, p, c', some r, _, j + 1, by rw [hst, colF_eq eO hu], fun j' hj' => by
          rcases Nat.lt_succ_iff_lt_or_eq.mp hj' with z | z
          · exact hnj j' z
          · rw [z]
            unfold EndO
            rw [j2, e1]
            exact fun w => hr (Option.some.inj w), rfl, rfl, fun z => hr (Option.some.inj z), hG2, ?_⟩
        have := congrArg List.length ep
        simp only [List.length_append, List.length_cons] at this
        omega
    · have hgn : gNe (.d (oD (some g))) (.d (.int g)) (mtS S cs n { s with ow := O } [a, b, cI (cmV kv)]) = _ := encO.gNe (x := some g) (y := some g)
      rw [decide_eq_true rfl] at hgn
      (try simp only [st0, st1, st2, st3, st4, st5, st6, w_forC, w_forN, x_jZm, x_par3, kPar3_eq, x_iZx, zx_L, zx_T, zx_LT, zx_TL, w_gSubD, q_addJ, x_iDk, w_augS, w_aug, x_slT, q_dk, q_dt, w_dp, w_md, eVar, isT, tyN, isNo, gsN, wipeR, kSq, viewL, viewS, reduceIte, reduceCtorEq, Nat.reduceAdd, String.reduceBEq, Int.reducePow, Int.reduceLT, Int.reduceLE, Nat.reduceLT, Nat.reduceLeDiff, Int.reduceToNat, List.getElem?_cons_zero, List.getElem?_cons_succ, List.set_cons_zero, List.set_cons_succ, List.length_cons, List.length_nil, if_true, Option.map_some, if_false, forall_const, List.length_map, Option.some.injEq, exists_eq_left', exists_eq_left, List.any_cons, List.any_nil, beq_self_eq_true, Option.isSome_some, exists_eq, exists_eq', hgn])
      exact ⟨j, O, hE, hnE, hO, hD, rfl⟩
  obtain ⟨fl, ρ', S1, e, j, O, hE, hnE, hO, rfl, hD, rfl⟩ := hwp
  refine ⟨j, O, hE, hnE, hO, ?_, hD⟩
  unfold p_Matching_give_back
  exact w_fnM (by rw [mt_len, mt_len]) (mt_clc rfl (hW _)) ⟨.nx, ρ', _, e, .inr ⟨rfl, rfl⟩, [], (List.append_nil _).symm⟩
theorem give_c (h : CsOk cs n) {kv : List (Int × Int)} {ms : List Int} {c0 : Int} (d : Du (CC cs) cs.length n g s) (g0 : 0 ≤ g) (hb : Gb (CC cs) n g s (cmF kv) s.ow ms c0) (hl : ms.length < 10000) :
    ∃ O, (∀ (S : Sto) (a b : Cell), (∀ m, ClC m a) → (∀ m, ClC m b) → p_Matching_give_back [.c S.length, .d (.int c0), .c (S.length + 6), .d (.int g)] (mtS S cs n s [a, b, cI (cmV kv)]) = some (.d .none, mtS S cs n { s with ow := O } [a, b, cI (cmV kv)])) ∧ Du (CC cs) cs.length n (g + 1) { s with ow := O } := by
  obtain ⟨j0, O0, h1, h2, h3, _, hD⟩ := give_one (S := []) (a := tc PyData.int []) (b := tc PyData.int []) h d g0 hb hl (clc_tc _ _) (clc_tc _ _)
  refine ⟨O0, fun S a b ha hb' => ?_, hD⟩
  obtain ⟨j, O, q1, q2, q3, e, _⟩ := give_one (S := S) (a := a) (b := b) h d g0 hb hl ha hb'
  have := first_eq (P := EndO kv g (s.ow, c0)) h1 q1 h2 q2
  rw [e, q3, h3, this]
end

end QW

namespace QW
open PySem PySem.Spec PyProof.Rows L2 QL
theorem v3_inj {a b : Int × Int × Int} (h : v3i a = v3i b) : a = b := by
  unfold v3i at h
  simp only [PyData.tuple.injEq, List.cons.injEq, PyData.int.injEq, and_true] at h
  exact Prod.ext h.1 (Prod.ext h.2.1 h.2.2)
def BestP (cs : List (List Int)) (n : Nat) (s : Ms) (ms rows : List Int) (t : Int × Int × Int) : Prop := ∀ (S : Sto) (C : Cell), (∀ m, ClC m C) → p_Matching_best_free [.c S.length, .c (S.length + 4), .c (S.length + 5)] (mtS S cs n s [tc PyData.int rows, tc PyData.int ms, C]) = some (.d (v3i t), mtS S cs n s [tc PyData.int rows, tc PyData.int ms, C])
noncomputable def bestF (cs : List (List Int)) (n : Nat) (s : Ms) (ms rows : List Int) : Int × Int × Int := by
  classical exact if h : ∃ t, BestP cs n s ms rows t then h.choose else (0, 0, 0)
theorem bestF_eq {cs : List (List Int)} {n : Nat} {s : Ms} {ms rows : List Int} {t : Int × Int × Int} (h : BestP cs n s ms rows t) : bestF cs n s ms rows = t := by
  have he : ∃ t, BestP cs n s ms rows t := ⟨t, h⟩
  unfold bestF
  rw [dif_pos he]
  have h1 := he.choose_spec [] (tc PyData.int []) (clc_tc _ _)
  have h2 := h [] (tc PyData.int []) (clc_tc _ _)
  rw [h1] at h2
  simp only [Option.some.injEq, Prod.mk.injEq, Val.d.injEq, and_true] at h2
  exact v3_inj h2
def GiveP (cs : List (List Int)) (n : Nat) (g : Int) (s : Ms) (kv : List (Int × Int)) (c0 : Int) (O : Int → Option Int) : Prop := (∀ (S : Sto) (a b : Cell), (∀ m, ClC m a) → (∀ m, ClC m b) → p_Matching_give_back [.c S.length, .d (.int c0), .c (S.length + 6), .d (.int g)] (mtS S cs n s [a, b, cI (cmV kv)]) = some (.d .none, mtS S cs n { s with ow := O } [a, b, cI (cmV kv)])) ∧ Du (CC cs) cs.length n (g + 1) { s with ow := O }
noncomputable def giveF (cs : List (List Int)) (n : Nat) (g : Int) (s : Ms) (kv : List (Int × Int)) (c0 : Int) : Int → Option Int := by
  classical exact if h : ∃ O, GiveP cs n g s kv c0 O then h.choose else fun _ => none
theorem giveF_ok {cs : List (List Int)} {n : Nat} {g : Int} {s : Ms} {kv : List (Int × Int)} {c0 : Int} (h : ∃ O, GiveP cs n g s kv c0 O) : GiveP cs n g s kv c0 (giveF cs n g s kv c0) := by
  unfold giveF
  rw [dif_pos h]
  exact h.choose_spec
abbrev Gst := Ms × List Int × List (Int × Int) × Option Int
noncomputable def stG (cs : List (List Int)) (n : Nat) (g : Int) (x : Gst) : Gst :=
  (raiseM (bestF cs n x.1 (x.2.1 ++ x.2.2.2.toList) (rowsM g (x.2.1 ++ x.2.2.2.toList) x.1)).1 (x.2.1 ++ x.2.2.2.toList) (rowsM g (x.2.1 ++ x.2.2.2.toList) x.1) x.1, x.2.1 ++ x.2.2.2.toList,
   x.2.2.1 ++ [((bestF cs n x.1 (x.2.1 ++ x.2.2.2.toList) (rowsM g (x.2.1 ++ x.2.2.2.toList) x.1)).2.1, (bestF cs n x.1 (x.2.1 ++ x.2.2.2.toList) (rowsM g (x.2.1 ++ x.2.2.2.toList) x.1)).2.2)], some (bestF cs n x.1 (x.2.1 ++ x.2.2.2.toList) (rowsM g (x.2.1 ++ x.2.2.2.toList) x.1)).2.1)
noncomputable def itG (cs : List (List Int)) (n : Nat) (g : Int) (s : Ms) : Nat → Gst
  | 0 => (s, [], [], none)
  | j + 1 => stG cs n g (itG cs n g s j)
def EndG (cs : List (List Int)) (n : Nat) (g : Int) (s : Ms) (j : Nat) : Prop := ∃ a, (itG cs n g s j).2.2.2 = some a ∧ (itG cs n g s j).1.ow a = none
noncomputable def resG (cs : List (List Int)) (n : Nat) (g : Int) (s : Ms) (j : Nat) : Ms := { (itG cs n g s j).1 with ow := giveF cs n g (itG cs n g s j).1 (itG cs n g s j).2.2.1 ((itG cs n g s j).2.2.2.getD 0) }
section
variable {S W : Sto} {cs : List (List Int)} {n : Nat} {s : Ms} {g : Int}
theorem grow_one {M : Int} (h : CsOk cs n) (hM : ∀ r c, 0 ≤ r → r < (cs.length : Int) → 0 ≤ c → c < (n : Int) → CC cs r c ≤ M) (hd : Du (CC cs) cs.length n g s) (hb : Bd M g s) (g0 : 0 ≤ g) (g1 : g < cs.length) :
    ∃ j s', EndG cs n g s j ∧ (∀ j', j' < j → ¬ EndG cs n g s j') ∧ s' = resG cs n g s j ∧ p_Matching_grow_by [.c S.length, .d (.int g)] (mtS S cs n s []) = some (.d .none, mtS S cs n s' []) ∧ Du (CC cs) cs.length n (g + 1) s' ∧ Bd M (g + 1) s' := by
  have hn1 := h.n1
  have hle := h.le
  have hwp : QL.wpS (f_Matching_grow_by [some (.c S.length), some (.d (.int g)), none, none, none, none, none] (mtS S cs n s [])) fun fl _ S1 => ∃ j s', EndG cs n g s j ∧ (∀ j', j' < j → ¬ EndG cs n g s j') ∧ s' = resG cs n g s j ∧ fl = .nx ∧ (Du (CC cs) cs.length n (g + 1) s' ∧ Bd M (g + 1) s') ∧ ∃ T, S1 = mtS S cs n s' [] ++ T := by
    unfold f_Matching_grow_by
    rw [w_seq]
    (try simp only [st0, st1, st2, st3, st4, st5, st6, w_forC, w_forN, x_jZm, x_par3, kPar3_eq, x_iZx, zx_L, zx_T, zx_LT, zx_TL, w_gSubD, q_addJ, x_iDk, w_augS, w_aug, x_slT, q_dk, q_dt, w_dp, w_md, eVar, isT, tyN, isNo, gsN, wipeR, kSq, viewL, viewS, reduceIte, reduceCtorEq, Nat.reduceAdd, String.reduceBEq, Int.reducePow, Int.reduceLT, Int.reduceLE, Nat.reduceLT, Nat.reduceLeDiff, Int.reduceToNat, List.getElem?_cons_zero, List.getElem?_cons_succ, List.set_cons_zero, List.set_cons_succ, List.length_cons, List.length_nil, if_true, Option.map_some, if_false, forall_const, List.length_map, Option.some.injEq, exists_eq_left', exists_eq_left, List.any_cons, List.any_nil, beq_self_eq_true, Option.isSome_some, exists_eq, exists_eq'])
    rw [show mtS S cs n s [] ++ [Cell.lst [Val.d (PyData.int g)]] ++ [Cell.lst []] ++ [Cell.dk []] = mtS S cs n s [tc PyData.int [g], tc PyData.int [], cI (cmV [])] by rw [mt_app, mt_app, mt_app]; rfl]
    simp only [mt_len, List.length_append, List.length_cons, List.length_nil, Nat.add_zero]
    rw [w_seq]
    (try simp only [st0, st1, st2, st3, st4, st5, st6, w_forC, w_forN, x_jZm, x_par3, kPar3_eq, x_iZx, zx_L, zx_T, zx_LT, zx_TL, w_gSubD, q_addJ, x_iDk, w_augS, w_aug, x_slT, q_dk, q_dt, w_dp, w_md, eVar, isT, tyN, isNo, gsN, wipeR, kSq, viewL, viewS, reduceIte, reduceCtorEq, Nat.reduceAdd, String.reduceBEq, Int.reducePow, Int.reduceLT, Int.reduceLE, Nat.reduceLT, Nat.reduceLeDiff, Int.reduceToNat, List.getElem?_cons_zero, List.getElem?_cons_succ, List.set_cons_zero, List.set_cons_succ, List.length_cons, List.length_nil, if_true, Option.map_some, if_false, forall_const, List.length_map, Option.some.injEq, exists_eq_left', exists_eq_left, List.any_cons, List.any_nil, beq_self_eq_true, Option.isSome_some, exists_eq, exists_eq'])
    rw [w_seq]
    obtain ⟨I, hI⟩ : ∃ X : Nat → Rho → Sto → Prop, X = fun (i : Nat) (ρ : Rho) (S' : Sto) => ∃ (s1 : Ms) (ms : List Int) (at' : Option Int) (kv : List (Int × Int)) (u : Option Val) (j : Nat), (s1, ms, kv, at') = itG cs n g s j ∧ (∀ j', j' < j → ¬ EndG cs n g s j') ∧ ρ = [some (.c S.length), some (.d (.int g)), some (.c (S.length + 4)), some (.c (S.length + 5)), some (.c (S.length + 6)), some (.d (oD at')), u] ∧ S' = mtS S cs n s1 [tc PyData.int (rowsM g ms s1), tc PyData.int (ms ++ at'.toList), cI (cmV kv)] ∧ Grw (CC cs) M cs.length n g s1 ms (cmF kv) at' ∧ kv.map Prod.fst = ms ++ at'.toList ∧ (at' = none → ms = []) ∧ i + (ms ++ at'.toList).length = n + 1 := ⟨_, rfl⟩
    refine w_while (n + 1) I (by rw [hI]; exact ⟨s, [], none, [], none, 0, rfl, by simp, rfl, rfl, Grw.start hd hb _, rfl, fun _ => rfl, rfl⟩) ?_ (by omega)
    intro i ρ S1 hh
    rw [hI] at hh
    obtain ⟨s1, ms, at', kv, u, jj, hjj, hnj, rfl, rfl, hG, hkv, hms, hi⟩ := hh
    have z1 : (itG cs n g s jj).1 = s1 := by rw [← hjj]
    have z2 : (itG cs n g s jj).2.1 = ms := by rw [← hjj]
    have z3 : (itG cs n g s jj).2.2.1 = kv := by rw [← hjj]
    have z4 : (itG cs n g s jj).2.2.2 = at' := by rw [← hjj]
    obtain ⟨B, hB⟩ : ∃ B : Bool → Sto → Prop, B = fun (b : Bool) S' => S' = mtS S cs n s1 [tc PyData.int (rowsM g ms s1), tc PyData.int (ms ++ at'.toList), cI (cmV kv)] ∧ ((b = true ∧ ∃ ms2, Grw (CC cs) M cs.length n g s1 ms2 (cmF kv) none ∧ kv.map Prod.fst = ms2 ∧ ms ++ at'.toList = ms2 ∧ ((at' = none ∧ ms2 = ms) ∨ ∃ a x, at' = some a ∧ s1.ow a = some x ∧ ms2 = ms ++ [a])) ∨ (b = false ∧ ∃ a, at' = some a ∧ s1.ow a = none)) := ⟨_, rfl⟩
    refine wp_mono (Q := B) ?_ ?_
    · cases at' with
      | none =>
        have e := hms rfl
        (try simp only [st0, st1, st2, st3, st4, st5, st6, w_forC, w_forN, x_jZm, x_par3, kPar3_eq, x_iZx, zx_L, zx_T, zx_LT, zx_TL, w_gSubD, q_addJ, x_iDk, w_augS, w_aug, x_slT, q_dk, q_dt, w_dp, w_md, eVar, isT, tyN, isNo, gsN, wipeR, kSq, viewL, viewS, reduceIte, reduceCtorEq, Nat.reduceAdd, String.reduceBEq, Int.reducePow, Int.reduceLT, Int.reduceLE, Nat.reduceLT, Nat.reduceLeDiff, Int.reduceToNat, List.getElem?_cons_zero, List.getElem?_cons_succ, List.set_cons_zero, List.set_cons_succ, List.length_cons, List.length_nil, if_true, Option.map_some, if_false, forall_const, List.length_map, Option.some.injEq, exists_eq_left', exists_eq_left, List.any_cons, List.any_nil, beq_self_eq_true, Option.isSome_some, exists_eq, exists_eq', oD])
        simp only [Option.toList_none, List.append_nil] at hkv
        rw [hB]
        exact ⟨rfl, .inl ⟨rfl, ms, hG, hkv, by simp, .inl ⟨rfl, rfl⟩⟩⟩
      | some a =>
        have har := hG.rg a (by simp)
        cases hw : s1.ow a with
        | some x =>
          (try simp only [st0, st1, st2, st3, st4, st5, st6, w_forC, w_forN, x_jZm, x_par3, kPar3_eq, x_iZx, zx_L, zx_T, zx_LT, zx_TL, w_gSubD, q_addJ, x_iDk, w_augS, w_aug, x_slT, q_dk, q_dt, w_dp, w_md, eVar, isT, tyN, isNo, gsN, wipeR, kSq, viewL, viewS, reduceIte, reduceCtorEq, Nat.reduceAdd, String.reduceBEq, Int.reducePow, Int.reduceLT, Int.reduceLE, Nat.reduceLT, Nat.reduceLeDiff, Int.reduceToNat, List.getElem?_cons_zero, List.getElem?_cons_succ, List.set_cons_zero, List.set_cons_succ, List.length_cons, List.length_nil, if_true, Option.map_some, if_false, forall_const, List.length_map, Option.some.injEq, exists_eq_left', exists_eq_left, List.any_cons, List.any_nil, beq_self_eq_true, Option.isSome_some, exists_eq, exists_eq', oD, x_eAt, ma_ow, mx_ow har.1 har.2, hw])
          rw [hB]
          exact ⟨rfl, .inl ⟨rfl, ms ++ [a], hG.shift hw, hkv, rfl, .inr ⟨a, x, rfl, hw, rfl⟩⟩⟩
        | none =>
          (try simp only [st0, st1, st2, st3, st4, st5, st6, w_forC, w_forN, x_jZm, x_par3, kPar3_eq, x_iZx, zx_L, zx_T, zx_LT, zx_TL, w_gSubD, q_addJ, x_iDk, w_augS, w_aug, x_slT, q_dk, q_dt, w_dp, w_md, eVar, isT, tyN, isNo, gsN, wipeR, kSq, viewL, viewS, reduceIte, reduceCtorEq, Nat.reduceAdd, String.reduceBEq, Int.reducePow, Int.reduceLT, Int.reduceLE, Nat.reduceLT, Nat.reduceLeDiff, Int.reduceToNat, List.getElem?_cons_zero, List.getElem?_cons_succ, List.set_cons_zero, List.set_cons_succ, List.length_cons, List.length_nil, if_true, Option.map_some, if_false, forall_const, List.length_map, Option.some.injEq, exists_eq_left', exists_eq_left, List.any_cons, List.any_nil, beq_self_eq_true, Option.isSome_some, exists_eq, exists_eq', oD, x_eAt, ma_ow, mx_ow har.1 har.2, hw])
          rw [hB]
          exact ⟨rfl, .inr ⟨rfl, a, rfl, hw⟩⟩
    intro b S' hb
    rw [hB] at hb
    obtain ⟨rfl, hb⟩ := hb
    refine ⟨fun hf => ?_, fun ht => ?_⟩
    · rcases hb with ⟨z, _⟩ | ⟨_, a, ea, hw⟩
      · rw [hf] at z; cases z
      subst ea
      have hml : ms.length < 10000 := by
        simp only [Option.toList_some, List.length_append, List.length_cons, List.length_nil] at hi
        omega
      have hOp := giveF_ok (cs := cs) (n := n) (g := g) (s := s1) (kv := kv) (c0 := a) (give_c (kv := kv) h hG.du g0 (hG.give hw) hml)
      have hOr : resG cs n g s jj = { s1 with ow := giveF cs n g s1 kv a } := by unfold resG; rw [z1, z3, z4]; rfl
      generalize giveF cs n g s1 kv a = O at hOp hOr
      obtain ⟨hO, hD⟩ := hOp
      have hgv := hO S (.frz (.list ((rowsM g ms s1).map .int))) (.frz (.list ((ms ++ [a]).map .int))) (fun _ => trivial) (fun _ => trivial)
      (try simp only [st0, st1, st2, st3, st4, st5, st6, w_seq, w_if, w_forC, w_forN, x_jZm, x_par3, kPar3_eq, x_iZx, zx_L, zx_T, zx_LT, zx_TL, w_gSubD, q_addJ, x_iDk, w_augS, w_aug, x_slT, q_dk, q_dt, w_dp, w_md, eVar, isT, tyN, isNo, gsN, wipeR, kSq, viewL, viewS, reduceIte, reduceCtorEq, Nat.reduceAdd, String.reduceBEq, Int.reducePow, Int.reduceLT, Int.reduceLE, Nat.reduceLT, Nat.reduceLeDiff, Int.reduceToNat, List.getElem?_cons_zero, List.getElem?_cons_succ, List.set_cons_zero, List.set_cons_succ, List.length_cons, List.length_nil, if_true, Option.map_some, if_false, forall_const, List.length_map, Option.some.injEq, exists_eq_left', exists_eq_left, List.any_cons, List.any_nil, beq_self_eq_true, Option.isSome_some, exists_eq, exists_eq', oD, tc_frz mt_5, ms_5, tc_frz mt_4, ms_4, x_eMeth, Option.toList_some])
      rw [mm_meth rfl]
      (try simp only [st0, st1, st2, st3, st4, st5, st6, w_seq, w_if, w_forC, w_forN, x_jZm, x_par3, kPar3_eq, x_iZx, zx_L, zx_T, zx_LT, zx_TL, w_gSubD, q_addJ, x_iDk, w_augS, w_aug, x_slT, q_dk, q_dt, w_dp, w_md, eVar, isT, tyN, isNo, gsN, wipeR, kSq, viewL, viewS, reduceIte, reduceCtorEq, Nat.reduceAdd, String.reduceBEq, Int.reducePow, Int.reduceLT, Int.reduceLE, Nat.reduceLT, Nat.reduceLeDiff, Int.reduceToNat, List.getElem?_cons_zero, List.getElem?_cons_succ, List.set_cons_zero, List.set_cons_succ, List.length_cons, List.length_nil, if_true, Option.map_some, if_false, forall_const, List.length_map, Option.some.injEq, exists_eq_left', exists_eq_left, List.any_cons, List.any_nil, beq_self_eq_true, Option.isSome_some, exists_eq, exists_eq', hgv])
      exact ⟨jj, { s1 with ow := O }, ⟨a, by rw [z4], by rw [z1]; exact hw⟩, hnj, hOr.symm, ⟨hD, hG.bd hw g0 g1 hM O⟩, _, (mt_app (W := [])).symm⟩
    · rcases hb with ⟨_, ms2, hG2, hkv2, hms2, hcase⟩ | ⟨z, _⟩
      rotate_left
      · rw [ht] at z; cases z
      obtain ⟨k, k0, k1, k2⟩ := hG2.free g0 g1 (by omega)
      have hlm : ms2.length < n := by
        have hn2 := hG2.nd
        simp only [Option.toList_none, List.append_nil] at hn2
        have := List.Nodup.length_le_of_subset (l₁ := k :: ms2) (List.nodup_cons.mpr ⟨k2, hn2⟩) (l₂ := rngI n) (fun c hc => by
          rcases List.mem_cons.mp hc with rfl | hc
          · exact rngI_mem.mpr ⟨k0, by omega⟩
          · have := hG2.rg c (by simpa using hc)
            exact rngI_mem.mpr ⟨this.1, by omega⟩)
        rw [rngI_len, List.length_cons] at this
        omega
      rw [hms2] at hi
      refine ⟨i - 1, by omega, ?_⟩
      obtain ⟨M, hM⟩ : ∃ X : Rho → Sto → Prop, X = fun (ρ : Rho) (S' : Sto) => ρ = [some (.c S.length), some (.d (.int g)), some (.c (S.length + 4)), some (.c (S.length + 5)), some (.c (S.length + 6)), some (.d (oD at')), u] ∧ S' = mtS S cs n s1 [tc PyData.int (rowsM g ms2 s1), tc PyData.int ms2, cI (cmV kv)] := ⟨_, rfl⟩
      refine w_cut M ?_ ?_
      · rw [w_if]
        rcases hcase with ⟨e1, e2⟩ | ⟨a, x, e1, e2, e3⟩
        · subst e1
          (try simp only [st0, st1, st2, st3, st4, st5, st6, w_forC, w_forN, x_jZm, x_par3, kPar3_eq, x_iZx, zx_L, zx_T, zx_LT, zx_TL, w_gSubD, q_addJ, x_iDk, w_augS, w_aug, x_slT, q_dk, q_dt, w_dp, w_md, eVar, isT, tyN, isNo, gsN, wipeR, kSq, viewL, viewS, reduceIte, reduceCtorEq, Nat.reduceAdd, String.reduceBEq, Int.reducePow, Int.reduceLT, Int.reduceLE, Nat.reduceLT, Nat.reduceLeDiff, Int.reduceToNat, List.getElem?_cons_zero, List.getElem?_cons_succ, List.set_cons_zero, List.set_cons_succ, List.length_cons, List.length_nil, if_true, Option.map_some, if_false, forall_const, List.length_map, Option.some.injEq, exists_eq_left', exists_eq_left, List.any_cons, List.any_nil, beq_self_eq_true, Option.isSome_some, exists_eq, exists_eq', oD])
          rw [hM]
          rw [e2] at hms2 ⊢
          rw [hms2]
          exact ⟨rfl, rfl⟩
        · subst e1
          have har := hG.rg a (by simp)
          have hrl : (rowsM g ms s1).length < 16777216 := by
            have : (rowsM g ms s1).length = ms.length + 1 := by simp [rowsM]
            have h2 := congrArg List.length hms2
            simp only [List.length_append] at h2
            omega
          (try simp only [st0, st1, st2, st3, st4, st5, st6, w_forC, w_forN, x_jZm, x_par3, kPar3_eq, x_iZx, zx_L, zx_T, zx_LT, zx_TL, w_gSubD, q_addJ, x_iDk, w_augS, w_aug, x_slT, q_dk, q_dt, w_dp, w_md, eVar, isT, tyN, isNo, gsN, wipeR, kSq, viewL, viewS, reduceIte, reduceCtorEq, Nat.reduceAdd, String.reduceBEq, Int.reducePow, Int.reduceLT, Int.reduceLE, Nat.reduceLT, Nat.reduceLeDiff, Int.reduceToNat, List.getElem?_cons_zero, List.getElem?_cons_succ, List.set_cons_zero, List.set_cons_succ, List.length_cons, List.length_nil, if_true, Option.map_some, if_false, forall_const, List.length_map, Option.some.injEq, exists_eq_left', exists_eq_left, List.any_cons, List.any_nil, beq_self_eq_true, Option.isSome_some, exists_eq, exists_eq', oD, x_eAt, ma_ow, mx_ow har.1 har.2, e2, mt_4, tc_app (y := x) mt_4 hrl, ms_4, rows_app e2])
          rw [hM]
          rw [e3]
          exact ⟨rfl, rfl⟩
      · intro ρ S' hh
        rw [hM] at hh
        obtain ⟨rfl, rfl⟩ := hh
        have hrr : ∀ r ∈ rowsM g ms2 s1, 0 ≤ r ∧ r < cs.length := fun r hr => by
          have := hG2.rows_rg g0 hr
          omega
        have hrl : (rowsM g ms2 s1).length = ms2.length + 1 := by simp [rowsM]
        obtain ⟨d, k', r, hbP, b1, b2, b3, b4, b5⟩ := best_c (s := s1) (ms := ms2) h hrr (by omega) ⟨(CC cs g k - s1.u g - s1.v k, k, g), List.mem_flatMap.mpr ⟨g, by simp [rowsM], List.mem_map.mpr ⟨k, free_mem.mpr ⟨⟨k0, k1⟩, k2⟩, rfl⟩⟩⟩
        have hb := hbP S (cI (cmV kv)) (clc_cm kv)
        have hbF := bestF_eq (cs := cs) (n := n) (s := s1) (ms := ms2) (rows := rowsM g ms2 s1) (t := (d, k', r)) hbP
        have hnext : itG cs n g s (jj + 1) = (raiseM d ms2 (rowsM g ms2 s1) s1, ms2, kv ++ [(k', r)], some k') := by
          show stG cs n g (itG cs n g s jj) = _
          unfold stG
          rw [z1, z2, z3, z4, hms2, hbF]
        have hst := hG2.step (d := d) (k := k') (r := r) g0 g1 b1 b2 b3 b4 b5
        have hn2 := hG2.nd
        simp only [Option.toList_none, List.append_nil] at hn2
        have hrz := raise_c (S := S) (s := s1) (d := d) (rows := rowsM g ms2 s1) (ms := ms2) (W := [cI (cmV kv)]) h hrr (fun c hc => by have := hG2.rg c (by simpa using hc); omega) hG2.rows_nd hn2 (by omega) (by omega) (fun c hc => by rw [List.mem_singleton.mp hc]; exact clc_cm kv _)
        rw [w_seq]
        (try simp only [st0, st1, st2, st3, st4, st5, st6, w_forC, w_forN, x_jZm, x_par3, kPar3_eq, x_iZx, zx_L, zx_T, zx_LT, zx_TL, w_gSubD, q_addJ, x_iDk, w_augS, w_aug, x_slT, q_dk, q_dt, w_dp, w_md, eVar, isT, tyN, isNo, gsN, wipeR, kSq, viewL, viewS, reduceIte, reduceCtorEq, Nat.reduceAdd, String.reduceBEq, Int.reducePow, Int.reduceLT, Int.reduceLE, Nat.reduceLT, Nat.reduceLeDiff, Int.reduceToNat, List.getElem?_cons_zero, List.getElem?_cons_succ, List.set_cons_zero, List.set_cons_succ, List.length_cons, List.length_nil, if_true, Option.map_some, if_false, forall_const, List.length_map, Option.some.injEq, exists_eq_left', exists_eq_left, List.any_cons, List.any_nil, beq_self_eq_true, Option.isSome_some, exists_eq, exists_eq', x_eMeth])
        rw [mm_meth rfl]
        (try simp only [st0, st1, st2, st3, st4, st5, st6, w_forC, w_forN, x_jZm, x_par3, kPar3_eq, x_iZx, zx_L, zx_T, zx_LT, zx_TL, w_gSubD, q_addJ, x_iDk, w_augS, w_aug, x_slT, q_dk, q_dt, w_dp, w_md, eVar, isT, tyN, isNo, gsN, wipeR, kSq, viewL, viewS, reduceIte, reduceCtorEq, Nat.reduceAdd, String.reduceBEq, Int.reducePow, Int.reduceLT, Int.reduceLE, Nat.reduceLT, Nat.reduceLeDiff, Int.reduceToNat, List.getElem?_cons_zero, List.getElem?_cons_succ, List.set_cons_zero, List.set_cons_succ, List.length_cons, List.length_nil, if_true, Option.map_some, if_false, forall_const, List.length_map, Option.some.injEq, exists_eq_left', exists_eq_left, List.any_cons, List.any_nil, beq_self_eq_true, Option.isSome_some, exists_eq, exists_eq', hb])
        rw [w_seq]
        (try simp only [st0, st1, st2, st3, st4, st5, st6, w_forC, w_forN, x_jZm, x_par3, kPar3_eq, x_iZx, zx_L, zx_T, zx_LT, zx_TL, w_gSubD, q_addJ, x_iDk, w_augS, w_aug, x_slT, q_dk, q_dt, w_dp, w_md, eVar, isT, tyN, isNo, gsN, wipeR, kSq, viewL, viewS, reduceIte, reduceCtorEq, Nat.reduceAdd, String.reduceBEq, Int.reducePow, Int.reduceLT, Int.reduceLE, Nat.reduceLT, Nat.reduceLeDiff, Int.reduceToNat, List.getElem?_cons_zero, List.getElem?_cons_succ, List.set_cons_zero, List.set_cons_succ, List.length_cons, List.length_nil, if_true, Option.map_some, if_false, forall_const, List.length_map, Option.some.injEq, exists_eq_left', exists_eq_left, List.any_cons, List.any_nil, beq_self_eq_true, Option.isSome_some, exists_eq, exists_eq', x_eMeth])
        rw [mm_meth rfl]
        (try simp only [st0, st1, st2, st3, st4, st5, st6, w_forC, w_forN, x_jZm, x_par3, kPar3_eq, x_iZx, zx_L, zx_T, zx_LT, zx_TL, w_gSubD, q_addJ, x_iDk, w_augS, w_aug, x_slT, q_dk, q_dt, w_dp, w_md, eVar, isT, tyN, isNo, gsN, wipeR, kSq, viewL, viewS, reduceIte, reduceCtorEq, Nat.reduceAdd, String.reduceBEq, Int.reducePow, Int.reduceLT, Int.reduceLE, Nat.reduceLT, Nat.reduceLeDiff, Int.reduceToNat, List.getElem?_cons_zero, List.getElem?_cons_succ, List.set_cons_zero, List.set_cons_succ, List.length_cons, List.length_nil, if_true, Option.map_some, if_false, forall_const, List.length_map, Option.some.injEq, exists_eq_left', exists_eq_left, List.any_cons, List.any_nil, beq_self_eq_true, Option.isSome_some, exists_eq, exists_eq', v3i, hrz])
        rw [w_seq]
        (try simp only [st0, st1, st2, st3, st4, st5, st6, w_forC, w_forN, x_jZm, x_par3, kPar3_eq, x_iZx, zx_L, zx_T, zx_LT, zx_TL, w_gSubD, q_addJ, x_iDk, w_augS, w_aug, x_slT, q_dk, q_dt, w_dp, w_md, eVar, isT, tyN, isNo, gsN, wipeR, kSq, viewL, viewS, reduceIte, reduceCtorEq, Nat.reduceAdd, String.reduceBEq, Int.reducePow, Int.reduceLT, Int.reduceLE, Nat.reduceLT, Nat.reduceLeDiff, Int.reduceToNat, List.getElem?_cons_zero, List.getElem?_cons_succ, List.set_cons_zero, List.set_cons_succ, List.length_cons, List.length_nil, if_true, Option.map_some, if_false, forall_const, List.length_map, Option.some.injEq, exists_eq_left', exists_eq_left, List.any_cons, List.any_nil, beq_self_eq_true, Option.isSome_some, exists_eq, exists_eq'])
        rw [w_seq]
        have hck : k' ∉ (cmV kv).map Prod.fst := by rw [cm_keys, hkv2]; exact b2
        have hkl : (cmV kv).length < 16777216 := by
          have : (cmV kv).length = ms2.length := by rw [← hkv2]; simp [cmV]
          omega
        have hput := dpt_cI (S := mtS S cs n (raiseM d ms2 (rowsM g ms2 s1) s1) [tc PyData.int (rowsM g ms2 s1), tc PyData.int ms2, cI (cmV kv)]) (v := .d (.int r)) (i := S.length + 6) mt_6 hck hkl
        (try simp only [st0, st1, st2, st3, st4, st5, st6, w_forC, w_forN, x_jZm, x_par3, kPar3_eq, x_iZx, zx_L, zx_T, zx_LT, zx_TL, w_gSubD, q_addJ, x_iDk, w_augS, w_aug, x_slT, q_dk, q_dt, w_dp, w_md, eVar, isT, tyN, isNo, gsN, wipeR, kSq, viewL, viewS, reduceIte, reduceCtorEq, Nat.reduceAdd, String.reduceBEq, Int.reducePow, Int.reduceLT, Int.reduceLE, Nat.reduceLT, Nat.reduceLeDiff, Int.reduceToNat, List.getElem?_cons_zero, List.getElem?_cons_succ, List.set_cons_zero, List.set_cons_succ, List.length_cons, List.length_nil, if_true, Option.map_some, if_false, forall_const, List.length_map, Option.some.injEq, exists_eq_left', exists_eq_left, List.any_cons, List.any_nil, beq_self_eq_true, Option.isSome_some, exists_eq, exists_eq', hput])
        rw [ms_6]
        have hcm : cmV kv ++ [(k', Val.d (PyData.int r))] = cmV (kv ++ [(k', r)]) := by
          unfold cmV
          rw [List.map_append]
          rfl
        rw [hcm]
        (try simp only [st0, st1, st2, st3, st4, st5, st6, w_forC, w_forN, x_jZm, x_par3, kPar3_eq, x_iZx, zx_L, zx_T, zx_LT, zx_TL, w_gSubD, q_addJ, x_iDk, w_augS, w_aug, x_slT, q_dk, q_dt, w_dp, w_md, eVar, isT, tyN, isNo, gsN, wipeR, kSq, viewL, viewS, reduceIte, reduceCtorEq, Nat.reduceAdd, String.reduceBEq, Int.reducePow, Int.reduceLT, Int.reduceLE, Nat.reduceLT, Nat.reduceLeDiff, Int.reduceToNat, List.getElem?_cons_zero, List.getElem?_cons_succ, List.set_cons_zero, List.set_cons_succ, List.length_cons, List.length_nil, if_true, Option.map_some, if_false, forall_const, List.length_map, Option.some.injEq, exists_eq_left', exists_eq_left, List.any_cons, List.any_nil, beq_self_eq_true, Option.isSome_some, exists_eq, exists_eq', mt_5, tc_app (y := k') mt_5 (show ms2.length < 16777216 by omega), ms_5])
        rw [hI]
        refine ⟨_, ms2, some k', kv ++ [(k', r)], _, jj + 1, hnext.symm, fun j' hj' => ?_, rfl, rfl, ?_, ?_, fun z => (nomatch z), ?_⟩
        · rcases Nat.lt_succ_iff_lt_or_eq.mp hj' with z | z
          · exact hnj j' z
          · rw [z]
            rintro ⟨a, ea, eo⟩
            rw [z4] at ea
            rw [z1] at eo
            rcases hcase with ⟨e1, _⟩ | ⟨a', x, e1, e2, _⟩
            · rw [e1] at ea; cases ea
            · rw [e1] at ea; cases ea; rw [e2] at eo; cases eo
        · rw [cm_app (by rw [hkv2]; exact b2)]
          exact hst
        · rw [List.map_append, hkv2]
          rfl
        · simp only [Option.toList_some, List.length_append, List.length_cons, List.length_nil]
          omega
  obtain ⟨fl, ρ', S1, e, j, s', hE, hnE, hs', rfl, hD, T, rfl⟩ := hwp
  refine ⟨j, s', hE, hnE, hs', ?_, hD⟩
  unfold p_Matching_grow_by
  exact w_fnM (by rw [mt_len, mt_len]) (mt_clc rfl (by simp)) ⟨.nx, ρ', _, e, .inr ⟨rfl, rfl⟩, T, rfl⟩
theorem grow_c {M : Int} (h : CsOk cs n) (hM : ∀ r c, 0 ≤ r → r < (cs.length : Int) → 0 ≤ c → c < (n : Int) → CC cs r c ≤ M) (hd : Du (CC cs) cs.length n g s) (hb : Bd M g s) (g0 : 0 ≤ g) (g1 : g < cs.length) :
    ∃ s', (∀ S : Sto, p_Matching_grow_by [.c S.length, .d (.int g)] (mtS S cs n s []) = some (.d .none, mtS S cs n s' [])) ∧ Du (CC cs) cs.length n (g + 1) s' ∧ Bd M (g + 1) s' := by
  obtain ⟨j0, s0, h1, h2, h3, _, hD⟩ := grow_one (S := []) h hM hd hb g0 g1
  refine ⟨s0, fun S => ?_, hD⟩
  obtain ⟨j, s', q1, q2, q3, e, _⟩ := grow_one (S := S) h hM hd hb g0 g1
  rw [e, q3, h3, first_eq (P := EndG cs n g s) h1 q1 h2 q2]
def kMakeM (cn : Str) (n : Nat) (φ : List Val → Sto → Option (Val × Sto)) (as : List Val) (S1 : Sto) : Option (Val × Sto) := if as.length + 1 = n then match φ (.c S1.length :: as) (S1 ++ [.ins cn []]) with
  | some (.d .none, S2) => some (.c S1.length, S2)
  | _ => none
  else none
theorem x_eMakeM {cn : Str} {n : Nat} {φ : List Val → Sto → Option (Val × Sto)} {fs : Af} {ρ : Rho} {S : Sto} : eMake cn n φ fs ρ S = bnd (fs ρ S) (kMakeM cn n φ) := rfl
theorem ap2M {S : Sto} {c d : Cell} {L : List Cell} : (S ++ c :: L) ++ [d] = S ++ c :: (L ++ [d]) := by rw [List.append_assoc]; rfl
def mt0 : Ms := ⟨fun _ => 0, fun _ => 0, fun _ => none⟩
theorem map_c0 {α β : Type} (xs : List α) (x : β) (m : Nat) (h : xs.length = m) : (xs.map fun _ => x) = (rngI m).map fun _ => x := by
  apply List.ext_getElem?
  intro i
  rw [List.getElem?_map, List.getElem?_map]
  by_cases hi : i < m
  · have e : (rngI m)[i]? = some (i : Int) := by
      have := rng_at (n := m) (i := (i : Int)) (by omega) (by omega)
      simpa using this
    rw [e, List.getElem?_eq_getElem (by omega)]
    rfl
  · rw [List.getElem?_eq_none (by omega), List.getElem?_eq_none (by rw [rngI_len]; omega)]
    rfl
theorem initM_c (h : CsOk cs n) (h0 : cs = [] → n = 0) : p_Matching___init__ [.c S.length, .d (vC cs)] (S ++ [.ins "Matching" []]) = some (.d .none, mtS S cs n mt0 []) := by
  have hle := h.le
  have hn1 := h.n1
  have key : wp (p_Matching___init__ [.c S.length, .d (vC cs)] (S ++ [.ins "Matching" []])) fun r S' => r = .d .none ∧ S' = mtS S cs n mt0 [] := by
    unfold p_Matching___init__
    refine w_fnA ?_
    show wpS (f_Matching___init__ [some (.c S.length), some (.d (vC cs)), none, none] _) _
    unfold f_Matching___init__
    rw [w_seq, w_sFs]
    (try simp only [st0, st1, st2, st3, st4, st5, st6, w_forC, w_forN, x_jZm, x_par3, kPar3_eq, x_iZx, zx_L, zx_T, zx_LT, zx_TL, w_gSubD, q_addJ, x_iDk, w_augS, w_aug, x_slT, q_dk, q_dt, w_dp, w_md, eVar, isT, tyN, isNo, gsN, wipeR, kSq, viewL, viewS, reduceIte, reduceCtorEq, Nat.reduceAdd, String.reduceBEq, Int.reducePow, Int.reduceLT, Int.reduceLE, Nat.reduceLT, Nat.reduceLeDiff, Int.reduceToNat, List.getElem?_cons_zero, List.getElem?_cons_succ, List.set_cons_zero, List.set_cons_succ, List.length_cons, List.length_nil, if_true, Option.map_some, if_false, forall_const, List.length_map, Option.some.injEq, exists_eq_left', exists_eq_left, List.any_cons, List.any_nil, beq_self_eq_true, Option.isSome_some, exists_eq, exists_eq'])
    refine ⟨_, _, insS_c ga0, by decide, ?_⟩
    rw [sa0]
    rw [w_seq, w_sFs]
    obtain ⟨B, hB⟩ : ∃ B : Val → Sto → Prop, B = fun v S' => v = .d (.int n) ∧ S' = S ++ [Cell.ins "Matching" (putA "costs" (.d (vC cs)) [])] := ⟨_, rfl⟩
    refine wp_mono (Q := B) ?_ ?_
    · cases cs with
      | nil =>
        have e := h0 rfl
        subst e
        unfold vC
        (try simp only [st0, st1, st2, st3, st4, st5, st6, w_forC, w_forN, x_jZm, x_par3, kPar3_eq, x_iZx, zx_L, zx_T, zx_LT, zx_TL, w_gSubD, q_addJ, x_iDk, w_augS, w_aug, x_slT, q_dk, q_dt, w_dp, w_md, eVar, isT, tyN, isNo, gsN, wipeR, kSq, viewL, viewS, reduceIte, reduceCtorEq, Nat.reduceAdd, String.reduceBEq, Int.reducePow, Int.reduceLT, Int.reduceLE, Nat.reduceLT, Nat.reduceLeDiff, Int.reduceToNat, List.getElem?_cons_zero, List.getElem?_cons_succ, List.set_cons_zero, List.set_cons_succ, List.length_cons, List.length_nil, if_true, Option.map_some, if_false, forall_const, List.length_map, Option.some.injEq, exists_eq_left', exists_eq_left, List.any_cons, List.any_nil, beq_self_eq_true, Option.isSome_some, exists_eq, exists_eq'])
        exact ⟨fun z => absurd z (by decide), fun _ => by rw [hB]; exact ⟨rfl, rfl⟩⟩
      | cons r0 rs =>
        have hr0 := h.rw r0 (by simp)
        unfold vC
        (try simp only [st0, st1, st2, st3, st4, st5, st6, w_forC, w_forN, x_jZm, x_par3, kPar3_eq, x_iZx, zx_L, zx_T, zx_LT, zx_TL, w_gSubD, q_addJ, x_iDk, w_augS, w_aug, x_slT, q_dk, q_dt, w_dp, w_md, eVar, isT, tyN, isNo, gsN, wipeR, kSq, viewL, viewS, reduceIte, reduceCtorEq, Nat.reduceAdd, String.reduceBEq, Int.reducePow, Int.reduceLT, Int.reduceLE, Nat.reduceLT, Nat.reduceLeDiff, Int.reduceToNat, List.getElem?_cons_zero, List.getElem?_cons_succ, List.set_cons_zero, List.set_cons_succ, List.length_cons, List.length_nil, if_true, Option.map_some, if_false, forall_const, List.length_map, Option.some.injEq, exists_eq_left', exists_eq_left, List.any_cons, List.any_nil, beq_self_eq_true, Option.isSome_some, exists_eq, exists_eq'])
        exact ⟨fun _ => by rw [hB, hr0]; exact ⟨rfl, rfl⟩, fun z => absurd (show (0 : Int) < ((rs.length + 1 : Nat) : Int) by omega) z⟩
    intro v S' hv
    rw [hB] at hv
    obtain ⟨rfl, rfl⟩ := hv
    (try simp only [st0, st1, st2, st3, st4, st5, st6, w_forC, w_forN, x_jZm, x_par3, kPar3_eq, x_iZx, zx_L, zx_T, zx_LT, zx_TL, w_gSubD, q_addJ, x_iDk, w_augS, w_aug, x_slT, q_dk, q_dt, w_dp, w_md, eVar, isT, tyN, isNo, gsN, wipeR, kSq, viewL, viewS, reduceIte, reduceCtorEq, Nat.reduceAdd, String.reduceBEq, Int.reducePow, Int.reduceLT, Int.reduceLE, Nat.reduceLT, Nat.reduceLeDiff, Int.reduceToNat, List.getElem?_cons_zero, List.getElem?_cons_succ, List.set_cons_zero, List.set_cons_succ, List.length_cons, List.length_nil, if_true, Option.map_some, if_false, forall_const, List.length_map, Option.some.injEq, exists_eq_left', exists_eq_left, List.any_cons, List.any_nil, beq_self_eq_true, Option.isSome_some, exists_eq, exists_eq'])
    refine ⟨_, _, insS_c ga0, by show 1 < 1000; decide, ?_⟩
    rw [sa0]
    rw [w_seq, w_sFs]
    have hvc : vC cs = PyData.list (cs.map fun r => PyData.list (r.map PyData.int)) := rfl
    rw [hvc]
    (try simp only [st0, st1, st2, st3, st4, st5, st6, w_forC, w_forN, x_jZm, x_par3, kPar3_eq, x_iZx, zx_L, zx_T, zx_LT, zx_TL, w_gSubD, q_addJ, x_iDk, w_augS, w_aug, x_slT, q_dk, q_dt, w_dp, w_md, eVar, isT, tyN, isNo, gsN, wipeR, kSq, viewL, viewS, reduceIte, reduceCtorEq, Nat.reduceAdd, String.reduceBEq, Int.reducePow, Int.reduceLT, Int.reduceLE, Nat.reduceLT, Nat.reduceLeDiff, Int.reduceToNat, List.getElem?_cons_zero, List.getElem?_cons_succ, List.set_cons_zero, List.set_cons_succ, List.length_cons, List.length_nil, if_true, Option.map_some, if_false, forall_const, List.length_map, Option.some.injEq, exists_eq_left', exists_eq_left, List.any_cons, List.any_nil, beq_self_eq_true, Option.isSome_some, exists_eq, exists_eq'])
    refine ⟨by omega, w_lcX (v := fun r : List Int => PyData.list (r.map PyData.int)) (fun _ => .int 0) (fun r hr => ?_) ?_⟩
    · simp only [st0, st1, st2, st3, st4, st5, st6, w_seq, w_if, w_forC, w_forN, x_jZm, x_par3, kPar3_eq, x_iZx, zx_L, zx_T, zx_LT, zx_TL, w_gSubD, q_addJ, x_iDk, w_augS, w_aug, x_slT, q_dk, q_dt, w_dp, w_md, eVar, isT, tyN, isNo, gsN, wipeR, kSq, viewL, viewS, reduceIte, reduceCtorEq, Nat.reduceAdd, String.reduceBEq, Int.reducePow, Int.reduceLT, Int.reduceLE, Nat.reduceLT, Nat.reduceLeDiff, Int.reduceToNat, List.getElem?_cons_zero, List.getElem?_cons_succ, List.set_cons_zero, List.set_cons_succ, List.length_cons, List.length_nil, if_true, Option.map_some, if_false, forall_const, List.length_map, Option.some.injEq, exists_eq_left', exists_eq_left, List.any_cons, List.any_nil, beq_self_eq_true, Option.isSome_some, exists_eq, exists_eq']
    rw [ap2M]
    refine ⟨_, _, insS_c ga0, by show 2 < 1000; decide, ?_⟩
    rw [sa0]
    rw [w_seq, w_sFs]
    (try simp only [st0, st1, st2, st3, st4, st5, st6, w_forC, w_forN, x_jZm, x_par3, kPar3_eq, x_iZx, zx_L, zx_T, zx_LT, zx_TL, w_gSubD, q_addJ, x_iDk, w_augS, w_aug, x_slT, q_dk, q_dt, w_dp, w_md, eVar, isT, tyN, isNo, gsN, wipeR, kSq, viewL, viewS, reduceIte, reduceCtorEq, Nat.reduceAdd, String.reduceBEq, Int.reducePow, Int.reduceLT, Int.reduceLE, Nat.reduceLT, Nat.reduceLeDiff, Int.reduceToNat, List.getElem?_cons_zero, List.getElem?_cons_succ, List.set_cons_zero, List.set_cons_succ, List.length_cons, List.length_nil, if_true, Option.map_some, if_false, forall_const, List.length_map, Option.some.injEq, exists_eq_left', exists_eq_left, List.any_cons, List.any_nil, beq_self_eq_true, Option.isSome_some, exists_eq, exists_eq', x_eAt])
    rw [kAt_c ga0 (v := .d (.int n)) rfl]
    (try simp only [st0, st1, st2, st3, st4, st5, st6, w_forC, w_forN, x_jZm, x_par3, kPar3_eq, x_iZx, zx_L, zx_T, zx_LT, zx_TL, w_gSubD, q_addJ, x_iDk, w_augS, w_aug, x_slT, q_dk, q_dt, w_dp, w_md, eVar, isT, tyN, isNo, gsN, wipeR, kSq, viewL, viewS, reduceIte, reduceCtorEq, Nat.reduceAdd, String.reduceBEq, Int.reducePow, Int.reduceLT, Int.reduceLE, Nat.reduceLT, Nat.reduceLeDiff, Int.reduceToNat, List.getElem?_cons_zero, List.getElem?_cons_succ, List.set_cons_zero, List.set_cons_succ, List.length_cons, List.length_nil, if_true, Option.map_some, if_false, forall_const, List.length_map, Option.some.injEq, exists_eq_left', exists_eq_left, List.any_cons, List.any_nil, beq_self_eq_true, Option.isSome_some, exists_eq, exists_eq'])
    refine ⟨by omega, ?_⟩
    rw [Int.toNat_natCast, rngD_I]
    refine ⟨by omega, w_lcX (v := PyData.int) (fun _ => .int 0) (fun r hr => ?_) ?_⟩
    · simp only [st0, st1, st2, st3, st4, st5, st6, w_seq, w_if, w_forC, w_forN, x_jZm, x_par3, kPar3_eq, x_iZx, zx_L, zx_T, zx_LT, zx_TL, w_gSubD, q_addJ, x_iDk, w_augS, w_aug, x_slT, q_dk, q_dt, w_dp, w_md, eVar, isT, tyN, isNo, gsN, wipeR, kSq, viewL, viewS, reduceIte, reduceCtorEq, Nat.reduceAdd, String.reduceBEq, Int.reducePow, Int.reduceLT, Int.reduceLE, Nat.reduceLT, Nat.reduceLeDiff, Int.reduceToNat, List.getElem?_cons_zero, List.getElem?_cons_succ, List.set_cons_zero, List.set_cons_succ, List.length_cons, List.length_nil, if_true, Option.map_some, if_false, forall_const, List.length_map, Option.some.injEq, exists_eq_left', exists_eq_left, List.any_cons, List.any_nil, beq_self_eq_true, Option.isSome_some, exists_eq, exists_eq']
    rw [ap2M]
    refine ⟨_, _, insS_c ga0, by show 3 < 1000; decide, ?_⟩
    rw [sa0]
    rw [w_sFs]
    (try simp only [st0, st1, st2, st3, st4, st5, st6, w_forC, w_forN, x_jZm, x_par3, kPar3_eq, x_iZx, zx_L, zx_T, zx_LT, zx_TL, w_gSubD, q_addJ, x_iDk, w_augS, w_aug, x_slT, q_dk, q_dt, w_dp, w_md, eVar, isT, tyN, isNo, gsN, wipeR, kSq, viewL, viewS, reduceIte, reduceCtorEq, Nat.reduceAdd, String.reduceBEq, Int.reducePow, Int.reduceLT, Int.reduceLE, Nat.reduceLT, Nat.reduceLeDiff, Int.reduceToNat, List.getElem?_cons_zero, List.getElem?_cons_succ, List.set_cons_zero, List.set_cons_succ, List.length_cons, List.length_nil, if_true, Option.map_some, if_false, forall_const, List.length_map, Option.some.injEq, exists_eq_left', exists_eq_left, List.any_cons, List.any_nil, beq_self_eq_true, Option.isSome_some, exists_eq, exists_eq', x_eAt])
    rw [kAt_c ga0 (v := .d (.int n)) rfl]
    (try simp only [st0, st1, st2, st3, st4, st5, st6, w_forC, w_forN, x_jZm, x_par3, kPar3_eq, x_iZx, zx_L, zx_T, zx_LT, zx_TL, w_gSubD, q_addJ, x_iDk, w_augS, w_aug, x_slT, q_dk, q_dt, w_dp, w_md, eVar, isT, tyN, isNo, gsN, wipeR, kSq, viewL, viewS, reduceIte, reduceCtorEq, Nat.reduceAdd, String.reduceBEq, Int.reducePow, Int.reduceLT, Int.reduceLE, Nat.reduceLT, Nat.reduceLeDiff, Int.reduceToNat, List.getElem?_cons_zero, List.getElem?_cons_succ, List.set_cons_zero, List.set_cons_succ, List.length_cons, List.length_nil, if_true, Option.map_some, if_false, forall_const, List.length_map, Option.some.injEq, exists_eq_left', exists_eq_left, List.any_cons, List.any_nil, beq_self_eq_true, Option.isSome_some, exists_eq, exists_eq'])
    refine ⟨by omega, ?_⟩
    rw [Int.toNat_natCast, rngD_I]
    refine ⟨by omega, w_lcX (v := PyData.int) (fun _ => .none) (fun r hr => ?_) ?_⟩
    · simp only [st0, st1, st2, st3, st4, st5, st6, w_seq, w_if, w_forC, w_forN, x_jZm, x_par3, kPar3_eq, x_iZx, zx_L, zx_T, zx_LT, zx_TL, w_gSubD, q_addJ, x_iDk, w_augS, w_aug, x_slT, q_dk, q_dt, w_dp, w_md, eVar, isT, tyN, isNo, gsN, wipeR, kSq, viewL, viewS, reduceIte, reduceCtorEq, Nat.reduceAdd, String.reduceBEq, Int.reducePow, Int.reduceLT, Int.reduceLE, Nat.reduceLT, Nat.reduceLeDiff, Int.reduceToNat, List.getElem?_cons_zero, List.getElem?_cons_succ, List.set_cons_zero, List.set_cons_succ, List.length_cons, List.length_nil, if_true, Option.map_some, if_false, forall_const, List.length_map, Option.some.injEq, exists_eq_left', exists_eq_left, List.any_cons, List.any_nil, beq_self_eq_true, Option.isSome_some, exists_eq, exists_eq']
    rw [ap2M]
    refine ⟨_, _, insS_c ga0, by show 4 < 1000; decide, ?_⟩
    rw [sa0]
    (try simp only [st0, st1, st2, st3, st4, st5, st6, w_forC, w_forN, x_jZm, x_par3, kPar3_eq, x_iZx, zx_L, zx_T, zx_LT, zx_TL, w_gSubD, q_addJ, x_iDk, w_augS, w_aug, x_slT, q_dk, q_dt, w_dp, w_md, eVar, isT, tyN, isNo, gsN, wipeR, kSq, viewL, viewS, reduceIte, reduceCtorEq, Nat.reduceAdd, String.reduceBEq, Int.reducePow, Int.reduceLT, Int.reduceLE, Nat.reduceLT, Nat.reduceLeDiff, Int.reduceToNat, List.getElem?_cons_zero, List.getElem?_cons_succ, List.set_cons_zero, List.set_cons_succ, List.length_cons, List.length_nil, if_true, Option.map_some, if_false, forall_const, List.length_map, Option.some.injEq, exists_eq_left', exists_eq_left, List.any_cons, List.any_nil, beq_self_eq_true, Option.isSome_some, exists_eq, exists_eq'])
    refine ⟨_, .inr rfl, rfl, ?_⟩
    have e1 : (cs.map fun _ => PyData.int 0) = ((rngI cs.length).map mt0.u).map PyData.int := by
      rw [List.map_map]
      exact map_c0 cs _ _ rfl
    have e2 : ((rngI n).map fun _ => PyData.int 0) = ((rngI n).map mt0.v).map PyData.int := by
      rw [List.map_map]
      rfl
    have e3 : ((rngI n).map fun _ => PyData.none) = ((rngI n).map mt0.ow).map oD := by
      rw [List.map_map]
      rfl
    rw [e1, e2, e3]
    simp only [List.length_append, List.length_cons, List.length_nil, List.nil_append, List.cons_append, Nat.zero_add, Nat.reduceAdd]
    rfl
  obtain ⟨r, S', e, rfl, rfl⟩ := key
  exact e
def GrowP (cs : List (List Int)) (n : Nat) (M : Int) (i : Nat) (s s' : Ms) : Prop := (∀ S : Sto, p_Matching_grow_by [.c S.length, .d (.int i)] (mtS S cs n s []) = some (.d .none, mtS S cs n s' [])) ∧ Du (CC cs) cs.length n (i + 1) s' ∧ Bd M (i + 1) s'
noncomputable def pickG (P : Ms → Prop) : Ms := by
  classical exact if h : ∃ s, P s then h.choose else mt0
theorem pickG_ok {P : Ms → Prop} (h : ∃ s, P s) : P (pickG P) := by
  unfold pickG
  rw [dif_pos h]
  exact h.choose_spec
noncomputable def seqG (cs : List (List Int)) (n : Nat) (M : Int) : Nat → Ms
  | 0 => mt0
  | i + 1 => pickG (GrowP cs n M i (seqG cs n M i))
theorem seqG_ok {M : Int} (h : CsOk cs n) (hM : ∀ r c, 0 ≤ r → r < (cs.length : Int) → 0 ≤ c → c < (n : Int) → CC cs r c ≤ M) : ∀ i : Nat, i ≤ cs.length → Du (CC cs) cs.length n i (seqG cs n M i) ∧ Bd M i (seqG cs n M i)
  | 0, _ => by
    refine ⟨⟨fun r c h1 h2 h3 h4 => ?_, fun c => Int.le_refl _, fun c r e => (nomatch e), fun c c' r e => (nomatch e), fun r h1 h2 => by omega, fun c _ => rfl, fun r => Int.le_refl _⟩, fun _ _ => rfl, fun c => by show -((0 : Int) * M) ≤ 0; rw [Int.zero_mul]; exact Int.le_refl _⟩
    obtain ⟨_, _, _, h5⟩ := cs_cell h h1 h2 h3 h4
    show (0 : Int) + 0 ≤ _
    omega
  | i + 1, hi => by
    obtain ⟨hd, hb⟩ := seqG_ok h hM i (by omega)
    have he : ∃ s', GrowP cs n M i (seqG cs n M i) s' := grow_c h hM hd hb (by omega) (by omega)
    exact (pickG_ok he).2
theorem seqG_st {M : Int} (h : CsOk cs n) (hM : ∀ r c, 0 ≤ r → r < (cs.length : Int) → 0 ≤ c → c < (n : Int) → CC cs r c ≤ M) {i : Nat} (hi : i < cs.length) (S : Sto) : p_Matching_grow_by [.c S.length, .d (.int i)] (mtS S cs n (seqG cs n M i) []) = some (.d .none, mtS S cs n (seqG cs n M (i + 1)) []) := by
  obtain ⟨hd, hb⟩ := seqG_ok h hM i (by omega)
  have he : ∃ s', GrowP cs n M i (seqG cs n M i) s' := grow_c h hM hd hb (by omega) (by omega)
  exact (pickG_ok he).1 S
theorem full_c {M : Int} {Q : Val → Sto → Prop} (h : CsOk cs n) (hM : ∀ r c, 0 ≤ r → r < (cs.length : Int) → 0 ≤ c → c < (n : Int) → CC cs r c ≤ M) (h0 : cs = [] → n = 0) (q : Q (.c S.length) (mtS S cs n (seqG cs n M cs.length) [])) : wp (p_full_matching [.d (vC cs)] S) Q := by
  have hle := h.le
  have hn1 := h.n1
  unfold p_full_matching
  refine w_fnA ?_
  show wpS (f_full_matching [some (.d (vC cs)), none, none] _) _
  unfold f_full_matching
  rw [w_seq]
  (try simp only [st0, st1, st2, st3, st4, st5, st6, w_forC, w_forN, x_jZm, x_par3, kPar3_eq, x_iZx, zx_L, zx_T, zx_LT, zx_TL, w_gSubD, q_addJ, x_iDk, w_augS, w_aug, x_slT, q_dk, q_dt, w_dp, w_md, eVar, isT, tyN, isNo, gsN, wipeR, kSq, viewL, viewS, reduceIte, reduceCtorEq, Nat.reduceAdd, String.reduceBEq, Int.reducePow, Int.reduceLT, Int.reduceLE, Nat.reduceLT, Nat.reduceLeDiff, Int.reduceToNat, List.getElem?_cons_zero, List.getElem?_cons_succ, List.set_cons_zero, List.set_cons_succ, List.length_cons, List.length_nil, if_true, Option.map_some, if_false, forall_const, List.length_map, Option.some.injEq, exists_eq_left', exists_eq_left, List.any_cons, List.any_nil, beq_self_eq_true, Option.isSome_some, exists_eq, exists_eq', x_eMakeM, kMakeM, initM_c h h0])
  rw [w_seq]
  have hvc : vC cs = PyData.list (cs.map fun r => PyData.list (r.map PyData.int)) := rfl
  have hln : gLen [Val.d (vC cs)] (mtS S cs n mt0 []) = some (.d (.int cs.length), mtS S cs n mt0 []) := by
    rw [hvc, q_lenL, List.length_map]
  (try simp only [st0, st1, st2, st3, st4, st5, st6, w_forC, w_forN, x_jZm, x_par3, kPar3_eq, x_iZx, zx_L, zx_T, zx_LT, zx_TL, w_gSubD, q_addJ, x_iDk, w_augS, w_aug, x_slT, q_dk, q_dt, w_dp, w_md, eVar, isT, tyN, isNo, gsN, wipeR, kSq, viewL, viewS, reduceIte, reduceCtorEq, Nat.reduceAdd, String.reduceBEq, Int.reducePow, Int.reduceLT, Int.reduceLE, Nat.reduceLT, Nat.reduceLeDiff, Int.reduceToNat, List.getElem?_cons_zero, List.getElem?_cons_succ, List.set_cons_zero, List.set_cons_succ, List.length_cons, List.length_nil, if_true, Option.map_some, if_false, forall_const, List.length_map, Option.some.injEq, exists_eq_left', exists_eq_left, List.any_cons, List.any_nil, beq_self_eq_true, Option.isSome_some, exists_eq, exists_eq', hln])
  refine ⟨by omega, ?_⟩
  rw [Int.toNat_natCast, rngD_I]
  refine w_loopX (v := PyData.int) (fun PRE ρ S' => ∃ (u : Option Val), ρ = [some (.d (vC cs)), some (.c S.length), u] ∧ S' = mtS S cs n (seqG cs n M PRE.length) []) ⟨_, rfl, rfl⟩ ?_ ?_
  · rintro PRE x post ρ S1 he ⟨u, rfl, rfl⟩
    have hx : x = PRE.length := by
      have e1 := rng_at (n := cs.length) (i := (PRE.length : Int)) (by omega) (by have := congrArg List.length he; rw [rngI_len] at this; simp at this; omega)
      rw [he] at e1
      simpa using e1
    subst hx
    have hl : PRE.length < cs.length := by have := congrArg List.length he; rw [rngI_len] at this; simp at this; omega
    have e := seqG_st h hM hl S
    (try simp only [st0, st1, st2, st3, st4, st5, st6, w_forC, w_forN, x_jZm, x_par3, kPar3_eq, x_iZx, zx_L, zx_T, zx_LT, zx_TL, w_gSubD, q_addJ, x_iDk, w_augS, w_aug, x_slT, q_dk, q_dt, w_dp, w_md, eVar, isT, tyN, isNo, gsN, wipeR, kSq, viewL, viewS, reduceIte, reduceCtorEq, Nat.reduceAdd, String.reduceBEq, Int.reducePow, Int.reduceLT, Int.reduceLE, Nat.reduceLT, Nat.reduceLeDiff, Int.reduceToNat, List.getElem?_cons_zero, List.getElem?_cons_succ, List.set_cons_zero, List.set_cons_succ, List.length_cons, List.length_nil, if_true, Option.map_some, if_false, forall_const, List.length_map, Option.some.injEq, exists_eq_left', exists_eq_left, List.any_cons, List.any_nil, beq_self_eq_true, Option.isSome_some, exists_eq, exists_eq', x_eMeth])
    rw [mm_meth rfl]
    (try simp only [st0, st1, st2, st3, st4, st5, st6, w_forC, w_forN, x_jZm, x_par3, kPar3_eq, x_iZx, zx_L, zx_T, zx_LT, zx_TL, w_gSubD, q_addJ, x_iDk, w_augS, w_aug, x_slT, q_dk, q_dt, w_dp, w_md, eVar, isT, tyN, isNo, gsN, wipeR, kSq, viewL, viewS, reduceIte, reduceCtorEq, Nat.reduceAdd, String.reduceBEq, Int.reducePow, Int.reduceLT, Int.reduceLE, Nat.reduceLT, Nat.reduceLeDiff, Int.reduceToNat, List.getElem?_cons_zero, List.getElem?_cons_succ, List.set_cons_zero, List.set_cons_succ, List.length_cons, List.length_nil, if_true, Option.map_some, if_false, forall_const, List.length_map, Option.some.injEq, exists_eq_left', exists_eq_left, List.any_cons, List.any_nil, beq_self_eq_true, Option.isSome_some, exists_eq, exists_eq', e])
    refine ⟨_, rfl, ?_⟩
    rw [List.length_append]
    rfl
  · rintro ρ S1 ⟨u, rfl, rfl⟩
    (try simp only [st0, st1, st2, st3, st4, st5, st6, w_forC, w_forN, x_jZm, x_par3, kPar3_eq, x_iZx, zx_L, zx_T, zx_LT, zx_TL, w_gSubD, q_addJ, x_iDk, w_augS, w_aug, x_slT, q_dk, q_dt, w_dp, w_md, eVar, isT, tyN, isNo, gsN, wipeR, kSq, viewL, viewS, reduceIte, reduceCtorEq, Nat.reduceAdd, String.reduceBEq, Int.reducePow, Int.reduceLT, Int.reduceLE, Nat.reduceLT, Nat.reduceLeDiff, Int.reduceToNat, List.getElem?_cons_zero, List.getElem?_cons_succ, List.set_cons_zero, List.set_cons_succ, List.length_cons, List.length_nil, if_true, Option.map_some, if_false, forall_const, List.length_map, Option.some.injEq, exists_eq_left', exists_eq_left, List.any_cons, List.any_nil, beq_self_eq_true, Option.isSome_some, exists_eq, exists_eq'])
    rw [rngI_len]
    exact q
end

end QW

namespace QW
open PySem PySem.Spec PyProof.Rows L2 QL
def Lk : Nat → PyData → Prop
  | 0, .list _ => False
  | n + 1, .list ds => ds.length < 1000000 ∧ ∀ d ∈ ds, Lk n d
  | 0, .tuple _ => False
  | n + 1, .tuple ds => ds.length < 1000000 ∧ ∀ d ∈ ds, Lk n d
  | _, .dict _ => False
  | _, _ => True
theorem dZp_d {xs es : List PyData} {S : Sto} (i : Nat) : dZp (.d (.list xs)) (.d (.list es)) S i = some ((zipD xs es).map Val.d)[i]? := by
  unfold dZp
  rw [show viewQ S (.d (.list xs)) = some (xs.map .d) from rfl, show viewQ S (.d (.list es)) = some (es.map .d) from rfl]
  simp only [List.getElem?_map]
  cases hx : xs[i]? with
  | none =>
    have : (zipD xs es)[i]? = none := by
      rw [List.getElem?_eq_none_iff] at *
      rw [zipD_len]
      omega
    rw [this]
    rfl
  | some x =>
    cases hy : es[i]? with
    | none =>
      have : (zipD xs es)[i]? = none := by
        rw [List.getElem?_eq_none_iff] at *
        rw [zipD_len]
        omega
      rw [this]
      rfl
    | some y =>
      rw [zipD_get xs es i x y hx hy]
      rfl
theorem same_ok : ∀ (n : Nat) (x : PyData) (S : Sto), Lk n x → recφ 4 0 f_law_same (n + 1) [.d x, .d x] S = some (.d (.bool true), S) := by
  intro n
  induction n with
  | zero =>
    intro x S h
    unfold recφ
    refine w_fnE ?_
    show wpS (f_law_same _ [some (.d x), some (.d x), none, none] S) _
    unfold f_law_same
    cases x <;> first | (simp only [Lk] at h; done) | skip
    all_goals (simp only [st0, st1, st2, st3, st4, st5, st6, w_seq, w_if, w_forC, w_forN, x_jZm, x_par3, kPar3_eq, x_iZx, zx_L, zx_T, zx_LT, zx_TL, w_gSubD, q_addJ, x_iDk, w_augS, w_aug, x_slT, q_dk, q_dt, w_dp, w_md, eVar, isT, tyN, isNo, gsN, wipeR, kSq, viewL, viewS, reduceIte, reduceCtorEq, Nat.reduceAdd, String.reduceBEq, Int.reducePow, Int.reduceLT, Int.reduceLE, Nat.reduceLT, Nat.reduceLeDiff, Int.reduceToNat, List.getElem?_cons_zero, List.getElem?_cons_succ, List.set_cons_zero, List.set_cons_succ, List.length_cons, List.length_nil, if_true, Option.map_some, if_false, forall_const, List.length_map, Option.some.injEq, exists_eq_left', exists_eq_left, List.any_cons, List.any_nil, beq_self_eq_true, Option.isSome_some, exists_eq, exists_eq', q_eq (x := .none) (y := .none) rfl rfl (by decide), PyData.eqv]; try exact Ex.refl S)
  | succ n ih => 
    intro x S h
    unfold recφ
    refine w_fnE ?_
    show wpS (f_law_same _ [some (.d x), some (.d x), none, none] S) _
    generalize recφ 4 0 f_law_same (n + 1) = me at ih ⊢
    unfold f_law_same
    cases x <;> first | (simp only [Lk] at h; done) | skip
    all_goals (simp only [st0, st1, st2, st3, st4, st5, st6, w_seq, w_if, w_forC, w_forN, x_jZm, x_par3, kPar3_eq, x_iZx, zx_L, zx_T, zx_LT, zx_TL, w_gSubD, q_addJ, x_iDk, w_augS, w_aug, x_slT, q_dk, q_dt, w_dp, w_md, eVar, isT, tyN, isNo, gsN, wipeR, kSq, viewL, viewS, reduceIte, reduceCtorEq, Nat.reduceAdd, String.reduceBEq, Int.reducePow, Int.reduceLT, Int.reduceLE, Nat.reduceLT, Nat.reduceLeDiff, Int.reduceToNat, List.getElem?_cons_zero, List.getElem?_cons_succ, List.set_cons_zero, List.set_cons_succ, List.length_cons, List.length_nil, if_true, Option.map_some, if_false, forall_const, List.length_map, Option.some.injEq, exists_eq_left', exists_eq_left, List.any_cons, List.any_nil, beq_self_eq_true, Option.isSome_some, exists_eq, exists_eq', q_eq (x := .none) (y := .none) rfl rfl (by decide), PyData.eqv]; try exact Ex.refl S)
    · rename_i xs
      simp only [Lk] at h
      refine w_lcDP (items := (zipD xs xs).map Val.d) (fun _ => .d (.bool true)) dZp_d (by rw [List.length_map, zipD_len]; omega) (fun x hx => ?_) ?_
      · obtain ⟨d, hd, rfl⟩ := List.mem_map.mp hx
        obtain ⟨i, hi⟩ := List.mem_iff_getElem?.mp hd
        obtain ⟨x, y, h1, h2, rfl⟩ := zp_get hi
        have e : x = y := by rw [h1] at h2; cases h2; rfl
        subst e
        simp only [st0, st1, st2, st3, st4, st5, st6, w_seq, w_if, w_forC, w_forN, x_jZm, x_par3, kPar3_eq, x_iZx, zx_L, zx_T, zx_LT, zx_TL, w_gSubD, q_addJ, x_iDk, w_augS, w_aug, x_slT, q_dk, q_dt, w_dp, w_md, eVar, isT, tyN, isNo, gsN, wipeR, kSq, viewL, viewS, reduceIte, reduceCtorEq, Nat.reduceAdd, String.reduceBEq, Int.reducePow, Int.reduceLT, Int.reduceLE, Nat.reduceLT, Nat.reduceLeDiff, Int.reduceToNat, List.getElem?_cons_zero, List.getElem?_cons_succ, List.set_cons_zero, List.set_cons_succ, List.length_cons, List.length_nil, if_true, Option.map_some, if_false, forall_const, List.length_map, Option.some.injEq, exists_eq_left', exists_eq_left, List.any_cons, List.any_nil, beq_self_eq_true, Option.isSome_some, exists_eq, exists_eq', ih x S (h.2 x (List.mem_of_getElem? h1))]
      · rw [List.map_map, show ((fun _ => Val.d (.bool true)) ∘ Val.d : PyData → Val) = Val.d ∘ (fun _ => PyData.bool true) from rfl, ← List.map_map, alloc_D]
        simp only [st0, st1, st2, st3, st4, st5, st6, w_seq, w_if, w_forC, w_forN, x_jZm, x_par3, kPar3_eq, x_iZx, zx_L, zx_T, zx_LT, zx_TL, w_gSubD, q_addJ, x_iDk, w_augS, w_aug, x_slT, q_dk, q_dt, w_dp, w_md, eVar, isT, tyN, isNo, gsN, wipeR, kSq, viewL, viewS, reduceIte, reduceCtorEq, Nat.reduceAdd, String.reduceBEq, Int.reducePow, Int.reduceLT, Int.reduceLE, Nat.reduceLT, Nat.reduceLeDiff, Int.reduceToNat, List.getElem?_cons_zero, List.getElem?_cons_succ, List.set_cons_zero, List.set_cons_succ, List.length_cons, List.length_nil, if_true, Option.map_some, if_false, forall_const, List.length_map, Option.some.injEq, exists_eq_left', exists_eq_left, List.any_cons, List.any_nil, beq_self_eq_true, Option.isSome_some, exists_eq, exists_eq', q_allT (ds := (zipD xs xs).map fun _ => .bool true) (S := S) (fun d hd => by obtain ⟨_, _, e⟩ := List.mem_map.mp hd; exact e.symm)]
        exact Ex.refl S
    · rename_i xs
      simp only [Lk] at h
      refine w_lcDP (items := (zipD xs xs).map Val.d) (fun _ => .d (.bool true)) (fun _ => rfl) (by rw [List.length_map, zipD_len]; omega) (fun x hx => ?_) ?_
      · obtain ⟨d, hd, rfl⟩ := List.mem_map.mp hx
        obtain ⟨i, hi⟩ := List.mem_iff_getElem?.mp hd
        obtain ⟨x, y, h1, h2, rfl⟩ := zp_get hi
        have e : x = y := by rw [h1] at h2; cases h2; rfl
        subst e
        simp only [st0, st1, st2, st3, st4, st5, st6, w_seq, w_if, w_forC, w_forN, x_jZm, x_par3, kPar3_eq, x_iZx, zx_L, zx_T, zx_LT, zx_TL, w_gSubD, q_addJ, x_iDk, w_augS, w_aug, x_slT, q_dk, q_dt, w_dp, w_md, eVar, isT, tyN, isNo, gsN, wipeR, kSq, viewL, viewS, reduceIte, reduceCtorEq, Nat.reduceAdd, String.reduceBEq, Int.reducePow, Int.reduceLT, Int.reduceLE, Nat.reduceLT, Nat.reduceLeDiff, Int.reduceToNat, List.getElem?_cons_zero, List.getElem?_cons_succ, List.set_cons_zero, List.set_cons_succ, List.length_cons, List.length_nil, if_true, Option.map_some, if_false, forall_const, List.length_map, Option.some.injEq, exists_eq_left', exists_eq_left, List.any_cons, List.any_nil, beq_self_eq_true, Option.isSome_some, exists_eq, exists_eq', ih x S (h.2 x (List.mem_of_getElem? h1))]
      · rw [List.map_map, show ((fun _ => Val.d (.bool true)) ∘ Val.d : PyData → Val) = Val.d ∘ (fun _ => PyData.bool true) from rfl, ← List.map_map, alloc_D]
        simp only [st0, st1, st2, st3, st4, st5, st6, w_seq, w_if, w_forC, w_forN, x_jZm, x_par3, kPar3_eq, x_iZx, zx_L, zx_T, zx_LT, zx_TL, w_gSubD, q_addJ, x_iDk, w_augS, w_aug, x_slT, q_dk, q_dt, w_dp, w_md, eVar, isT, tyN, isNo, gsN, wipeR, kSq, viewL, viewS, reduceIte, reduceCtorEq, Nat.reduceAdd, String.reduceBEq, Int.reducePow, Int.reduceLT, Int.reduceLE, Nat.reduceLT, Nat.reduceLeDiff, Int.reduceToNat, List.getElem?_cons_zero, List.getElem?_cons_succ, List.set_cons_zero, List.set_cons_succ, List.length_cons, List.length_nil, if_true, Option.map_some, if_false, forall_const, List.length_map, Option.some.injEq, exists_eq_left', exists_eq_left, List.any_cons, List.any_nil, beq_self_eq_true, Option.isSome_some, exists_eq, exists_eq', q_allT (ds := (zipD xs xs).map fun _ => .bool true) (S := S) (fun d hd => by obtain ⟨_, _, e⟩ := List.mem_map.mp hd; exact e.symm)]
        exact Ex.refl S
theorem Lk.mono : ∀ (n m : Nat) (x : PyData), n ≤ m → Lk n x → Lk m x := by
  intro n
  induction n with
  | zero =>
    intro m x _ h
    cases m with
    | zero => exact h
    | succ m => cases x <;> first | (simp only [Lk] at h; done) | (simp only [Lk])
  | succ n ih =>
    intro m x hm h
    cases m with
    | zero => omega
    | succ m =>
      cases x <;> first | (simp only [Lk] at h; done) | (simp only [Lk]; done) | skip
      all_goals
        simp only [Lk] at h ⊢
        exact ⟨h.1, fun d hd => ih m d (by omega) (h.2 d hd)⟩
theorem same_e {n : Nat} {x : PyData} {S : Sto} (h : Lk n x) (hn : n + 1 ≤ 11 := by decide) : p_law_same [.d x, .d x] S = some (.d (.bool true), S) := by
  unfold p_law_same
  exact same_ok 11 x S (Lk.mono n 11 x (by omega) h)
theorem same_cell {k n : Nat} {ds : List PyData} {S : Sto} (h : S[k]? = some (.lst (ds.map Val.d))) (hl : Lk n (.list ds)) (hn : n ≤ 11 := by decide) : p_law_same [.c k, .d (.list ds)] S = some (.d (.bool true), S) := by
  have hl := Lk.mono n 11 _ hn hl
  simp only [Lk] at hl
  have ih := fun x hx => same_ok 10 x S (hl.2 x hx)
  unfold p_law_same recφ
  refine w_fnE ?_
  show wpS (f_law_same (recφ 4 0 f_law_same 11) [some (.c k), some (.d (.list ds)), none, none] S) _
  generalize recφ 4 0 f_law_same 11 = me at ih ⊢
  unfold f_law_same
  simp only [st0, st1, st2, st3, st4, st5, st6, w_seq, w_if, w_forC, w_forN, x_jZm, x_par3, kPar3_eq, x_iZx, zx_L, zx_T, zx_LT, zx_TL, w_gSubD, q_addJ, x_iDk, w_augS, w_aug, x_slT, q_dk, q_dt, w_dp, w_md, eVar, isT, tyN, isNo, gsN, wipeR, kSq, viewL, viewS, reduceIte, reduceCtorEq, Nat.reduceAdd, String.reduceBEq, Int.reducePow, Int.reduceLT, Int.reduceLE, Nat.reduceLT, Nat.reduceLeDiff, Int.reduceToNat, List.getElem?_cons_zero, List.getElem?_cons_succ, List.set_cons_zero, List.set_cons_succ, List.length_cons, List.length_nil, if_true, Option.map_some, if_false, forall_const, List.length_map, Option.some.injEq, exists_eq_left', exists_eq_left, List.any_cons, List.any_nil, beq_self_eq_true, Option.isSome_some, exists_eq, exists_eq', look_c h, q_lenC h, jZ0_c h]
  refine w_lcDP (items := (zipD ds ds).map Val.d) (fun _ => .d (.bool true)) (dZp_c h) (by rw [List.length_map, zipD_len]; omega) (fun x hx => ?_) ?_
  · obtain ⟨d, hd, rfl⟩ := List.mem_map.mp hx
    obtain ⟨i, hi⟩ := List.mem_iff_getElem?.mp hd
    obtain ⟨x, y, h1, h2, rfl⟩ := zp_get hi
    have e : x = y := by rw [h1] at h2; cases h2; rfl
    subst e
    simp only [st0, st1, st2, st3, st4, st5, st6, w_seq, w_if, w_forC, w_forN, x_jZm, x_par3, kPar3_eq, x_iZx, zx_L, zx_T, zx_LT, zx_TL, w_gSubD, q_addJ, x_iDk, w_augS, w_aug, x_slT, q_dk, q_dt, w_dp, w_md, eVar, isT, tyN, isNo, gsN, wipeR, kSq, viewL, viewS, reduceIte, reduceCtorEq, Nat.reduceAdd, String.reduceBEq, Int.reducePow, Int.reduceLT, Int.reduceLE, Nat.reduceLT, Nat.reduceLeDiff, Int.reduceToNat, List.getElem?_cons_zero, List.getElem?_cons_succ, List.set_cons_zero, List.set_cons_succ, List.length_cons, List.length_nil, if_true, Option.map_some, if_false, forall_const, List.length_map, Option.some.injEq, exists_eq_left', exists_eq_left, List.any_cons, List.any_nil, beq_self_eq_true, Option.isSome_some, exists_eq, exists_eq', ih x (List.mem_of_getElem? h1)]
  · rw [List.map_map, show ((fun _ => Val.d (.bool true)) ∘ Val.d : PyData → Val) = Val.d ∘ (fun _ => PyData.bool true) from rfl, ← List.map_map, alloc_D]
    simp only [st0, st1, st2, st3, st4, st5, st6, w_seq, w_if, w_forC, w_forN, x_jZm, x_par3, kPar3_eq, x_iZx, zx_L, zx_T, zx_LT, zx_TL, w_gSubD, q_addJ, x_iDk, w_augS, w_aug, x_slT, q_dk, q_dt, w_dp, w_md, eVar, isT, tyN, isNo, gsN, wipeR, kSq, viewL, viewS, reduceIte, reduceCtorEq, Nat.reduceAdd, String.reduceBEq, Int.reducePow, Int.reduceLT, Int.reduceLE, Nat.reduceLT, Nat.reduceLeDiff, Int.reduceToNat, List.getElem?_cons_zero, List.getElem?_cons_succ, List.set_cons_zero, List.set_cons_succ, List.length_cons, List.length_nil, if_true, Option.map_some, if_false, forall_const, List.length_map, Option.some.injEq, exists_eq_left', exists_eq_left, List.any_cons, List.any_nil, beq_self_eq_true, Option.isSome_some, exists_eq, exists_eq', q_allT (ds := (zipD ds ds).map fun _ => .bool true) (S := S) (fun d hd => by obtain ⟨_, _, e⟩ := List.mem_map.mp hd; exact e.symm)]
    exact Ex.refl S

end QW

namespace QW
open PySem PySem.Spec PyProof.Rows L2 QL
theorem cps_app (s t : Str) : (s ++ t).cps.toList = s.cps.toList ++ t.cps.toList := by
  show (s.cps ++ t.cps).toList = _
  simp
end QW

namespace QW
open PySem PySem.Spec PyProof.Rows L2 QL
theorem atI_some {α : Type} {xs : List α} {i : Int} {x : α} (h0 : 0 ≤ i) (h : atI xs i = some x) : i < xs.length := by
  unfold atI ixN at h
  rw [if_pos h0] at h
  split at h
  · assumption
  · cases h

end QW

namespace QW
open PySem PySem.Spec PyProof.Rows L2 QL
theorem atI_get {xs : List Int} {i : Int} (h0 : 0 ≤ i) (h1 : i < xs.length) : atI xs i = some ((atI xs i).getD 0) := by
  rw [at_in h0 h1]
  rfl
end QW

namespace QW
open PySem PySem.Spec PyProof.Rows L2 QL
theorem wpEq1 {α : Type} {x : Option (α × Sto)} {a : α} {S : Sto} (h : wp x fun r S' => r = a ∧ S' = S) : x = some (a, S) := by
  obtain ⟨r, S', e, rfl, rfl⟩ := h
  exact e
theorem enI_of {α : Type} {xs : List α} {i : Int} {x : α} (h0 : 0 ≤ i) (h : atI xs i = some x) : (i, x) ∈ enI xs := by
  have hl := atI_some h0 h
  unfold atI ixN at h
  rw [if_pos h0, if_pos hl] at h
  have h2 : xs[i.toNat]? = some x := h
  unfold enI
  refine List.mem_map.mpr ⟨(x, i.toNat), List.mem_zipIdx_iff_getElem?.mpr h2, ?_⟩
  simp only [Prod.mk.injEq, and_true]
  omega
theorem lenC {S : Sto} : gLen [Val.d (vC cs)] S = some (.d (.int cs.length), S) := by
  unfold vC
  rw [q_lenL, List.length_map]
end QW

namespace QW
open PySem PySem.Spec PyProof.Rows L2 QL
theorem ints_inj {a b : List Int} (h : a.map PyData.int = b.map PyData.int) : a = b := (List.map_inj_right (fun _ _ e => by cases e; rfl)).mp h
end QW

namespace QW
open PySem PySem.Spec PyProof.Rows L2 QL
/-! ### costs by draws -/
def vR (r : List Int) : PyData := .list (r.map .int)
theorem vC_eq (cs : List (List Int)) : vC cs = .list (cs.map vR) := rfl
def RwOk (n : Nat) (M : Int) (r : List Int) : Prop := r.length = n ∧ ∀ x ∈ r, 0 ≤ x ∧ x ≤ M
theorem yes_w {ρ : Rho} {S : Sto} {A : Sto → Prop} {B : Sto → Prop} (h : A S) : wp (fYes ρ S) fun b S2 => (b = true → A S2) ∧ (b = false → B S2) := by
  unfold fYes
  rw [wp_some]
  exact ⟨fun _ => h, fun z => (nomatch z)⟩
theorem costs_ok {S : Sto} {k N : Nat} {Q : Val → Sto → Prop} (hb : Bx N S k) (hN : N < 100000000) (q : ∀ cs n S', CsOk cs n → (cs = [] → n = 0) → cs.length ≤ 12 → n ≤ 12 → (∀ r ∈ cs, ∀ x ∈ r, x ≤ 1000000) → Dr k (N + 300) S S' → Q (.d (vC cs)) S') : wp (p_law_costs [.c k] S) Q := by
  have key : wp (p_law_costs [.c k] S) fun r S' => ∃ x, r = .d x ∧ Dr k (N + 300) S S' ∧ ∃ cs n, x = vC cs ∧ CsOk cs n ∧ (cs = [] → n = 0) ∧ cs.length ≤ 12 ∧ n ≤ 12 ∧ ∀ r ∈ cs, ∀ x ∈ r, x ≤ 1000000 := by
    unfold p_law_costs
    refine w_fnD hb ?_
    show wpS (f_law_costs [some (.c k), none, none, none, none, none, none] _) _
    unfold f_law_costs
    rw [w_seq]
    (try simp only [st0, st1, st2, st3, st4, st5, st6, w_forC, w_forN, x_jZm, x_par3, kPar3_eq, x_iZx, zx_L, zx_T, zx_LT, zx_TL, w_gSubD, q_addJ, x_iDk, w_augS, w_aug, x_slT, q_dk, q_dt, w_dp, w_md, eVar, isT, tyN, isNo, gsN, wipeR, kSq, viewL, viewS, reduceIte, reduceCtorEq, Nat.reduceAdd, String.reduceBEq, Int.reducePow, Int.reduceLT, Int.reduceLE, Nat.reduceLT, Nat.reduceLeDiff, Int.reduceToNat, List.getElem?_cons_zero, List.getElem?_cons_succ, List.set_cons_zero, List.set_cons_succ, List.length_cons, List.length_nil, if_true, Option.map_some, if_false, forall_const, List.length_map, Option.some.injEq, exists_eq_left', exists_eq_left, List.any_cons, List.any_nil, beq_self_eq_true, Option.isSome_some, exists_eq, exists_eq'])
    refine take_i hb (by omega) (by decide) (by decide) fun t S1 t0 t1 g1 => ?_
    obtain ⟨_, e1, z, rfl, z0, z1⟩ := at_all (xs := [PyData.int 6, .int 6, .int 6, .int 13]) (P := fun x => ∃ z : Int, x = .int z ∧ 6 ≤ z ∧ z ≤ 13) t0 (by simpa using t1) (by
      intro x hx
      simp only [List.mem_cons, List.not_mem_nil, or_false] at hx
      rcases hx with rfl | rfl | rfl | rfl <;> exact ⟨_, rfl, by decide, by decide⟩)
    (try simp only [st0, st1, st2, st3, st4, st5, st6, w_forC, w_forN, x_jZm, x_par3, kPar3_eq, x_iZx, zx_L, zx_T, zx_LT, zx_TL, w_gSubD, q_addJ, x_iDk, w_augS, w_aug, x_slT, q_dk, q_dt, w_dp, w_md, eVar, isT, tyN, isNo, gsN, wipeR, kSq, viewL, viewS, reduceIte, reduceCtorEq, Nat.reduceAdd, String.reduceBEq, Int.reducePow, Int.reduceLT, Int.reduceLE, Nat.reduceLT, Nat.reduceLeDiff, Int.reduceToNat, List.getElem?_cons_zero, List.getElem?_cons_succ, List.set_cons_zero, List.set_cons_succ, List.length_cons, List.length_nil, if_true, Option.map_some, if_false, forall_const, List.length_map, Option.some.injEq, exists_eq_left', exists_eq_left, List.any_cons, List.any_nil, beq_self_eq_true, Option.isSome_some, exists_eq, exists_eq'])
    refine ⟨_, e1, ?_⟩
    refine take_i g1.box (by omega) (by omega) (by omega) fun R S2 R0 R1 g2 => ?_
    have g2' := g1.trans g2
    (try simp only [st0, st1, st2, st3, st4, st5, st6, w_forC, w_forN, x_jZm, x_par3, kPar3_eq, x_iZx, zx_L, zx_T, zx_LT, zx_TL, w_gSubD, q_addJ, x_iDk, w_augS, w_aug, x_slT, q_dk, q_dt, w_dp, w_md, eVar, isT, tyN, isNo, gsN, wipeR, kSq, viewL, viewS, reduceIte, reduceCtorEq, Nat.reduceAdd, String.reduceBEq, Int.reducePow, Int.reduceLT, Int.reduceLE, Nat.reduceLT, Nat.reduceLeDiff, Int.reduceToNat, List.getElem?_cons_zero, List.getElem?_cons_succ, List.set_cons_zero, List.set_cons_succ, List.length_cons, List.length_nil, if_true, Option.map_some, if_false, forall_const, List.length_map, Option.some.injEq, exists_eq_left', exists_eq_left, List.any_cons, List.any_nil, beq_self_eq_true, Option.isSome_some, exists_eq, exists_eq'])
    rw [w_seq]
    (try simp only [st0, st1, st2, st3, st4, st5, st6, w_forC, w_forN, x_jZm, x_par3, kPar3_eq, x_iZx, zx_L, zx_T, zx_LT, zx_TL, w_gSubD, q_addJ, x_iDk, w_augS, w_aug, x_slT, q_dk, q_dt, w_dp, w_md, eVar, isT, tyN, isNo, gsN, wipeR, kSq, viewL, viewS, reduceIte, reduceCtorEq, Nat.reduceAdd, String.reduceBEq, Int.reducePow, Int.reduceLT, Int.reduceLE, Nat.reduceLT, Nat.reduceLeDiff, Int.reduceToNat, List.getElem?_cons_zero, List.getElem?_cons_succ, List.set_cons_zero, List.set_cons_succ, List.length_cons, List.length_nil, if_true, Option.map_some, if_false, forall_const, List.length_map, Option.some.injEq, exists_eq_left', exists_eq_left, List.any_cons, List.any_nil, beq_self_eq_true, Option.isSome_some, exists_eq, exists_eq'])
    refine take_i g2.box (by omega) (by split <;> omega) (by split <;> omega) fun e S3 t0 t1 g3 => ?_
    have g3' := g2'.trans g3
    have hC : R + e ≤ 12 := by
      revert t1
      split <;> omega
    (try simp only [st0, st1, st2, st3, st4, st5, st6, w_forC, w_forN, x_jZm, x_par3, kPar3_eq, x_iZx, zx_L, zx_T, zx_LT, zx_TL, w_gSubD, q_addJ, x_iDk, w_augS, w_aug, x_slT, q_dk, q_dt, w_dp, w_md, eVar, isT, tyN, isNo, gsN, wipeR, kSq, viewL, viewS, reduceIte, reduceCtorEq, Nat.reduceAdd, String.reduceBEq, Int.reducePow, Int.reduceLT, Int.reduceLE, Nat.reduceLT, Nat.reduceLeDiff, Int.reduceToNat, List.getElem?_cons_zero, List.getElem?_cons_succ, List.set_cons_zero, List.set_cons_succ, List.length_cons, List.length_nil, if_true, Option.map_some, if_false, forall_const, List.length_map, Option.some.injEq, exists_eq_left', exists_eq_left, List.any_cons, List.any_nil, beq_self_eq_true, Option.isSome_some, exists_eq, exists_eq', q_addI])
    rw [w_seq]
    (try simp only [st0, st1, st2, st3, st4, st5, st6, w_forC, w_forN, x_jZm, x_par3, kPar3_eq, x_iZx, zx_L, zx_T, zx_LT, zx_TL, w_gSubD, q_addJ, x_iDk, w_augS, w_aug, x_slT, q_dk, q_dt, w_dp, w_md, eVar, isT, tyN, isNo, gsN, wipeR, kSq, viewL, viewS, reduceIte, reduceCtorEq, Nat.reduceAdd, String.reduceBEq, Int.reducePow, Int.reduceLT, Int.reduceLE, Nat.reduceLT, Nat.reduceLeDiff, Int.reduceToNat, List.getElem?_cons_zero, List.getElem?_cons_succ, List.set_cons_zero, List.set_cons_succ, List.length_cons, List.length_nil, if_true, Option.map_some, if_false, forall_const, List.length_map, Option.some.injEq, exists_eq_left', exists_eq_left, List.any_cons, List.any_nil, beq_self_eq_true, Option.isSome_some, exists_eq, exists_eq', q_addI])
    refine ⟨by decide, ?_⟩
    refine take_i g3.box (by omega) (by decide) (by decide) fun t S4 t0' t1' g4 => ?_
    have g4' := g3'.trans g4
    (try simp only [st0, st1, st2, st3, st4, st5, st6, w_forC, w_forN, x_jZm, x_par3, kPar3_eq, x_iZx, zx_L, zx_T, zx_LT, zx_TL, w_gSubD, q_addJ, x_iDk, w_augS, w_aug, x_slT, q_dk, q_dt, w_dp, w_md, eVar, isT, tyN, isNo, gsN, wipeR, kSq, viewL, viewS, reduceIte, reduceCtorEq, Nat.reduceAdd, String.reduceBEq, Int.reducePow, Int.reduceLT, Int.reduceLE, Nat.reduceLT, Nat.reduceLeDiff, Int.reduceToNat, List.getElem?_cons_zero, List.getElem?_cons_succ, List.set_cons_zero, List.set_cons_succ, List.length_cons, List.length_nil, if_true, Option.map_some, if_false, forall_const, List.length_map, Option.some.injEq, exists_eq_left', exists_eq_left, List.any_cons, List.any_nil, beq_self_eq_true, Option.isSome_some, exists_eq, exists_eq'])
    obtain ⟨_, e2, M, rfl, M0, M1⟩ := at_all (xs := [PyData.int 2, .int 4, .int 30, .int (1000000 + 1)]) (P := fun x => ∃ z : Int, x = .int z ∧ 2 ≤ z ∧ z ≤ 1000001) t0' (by simpa using t1') (by
      intro x hx
      simp only [List.mem_cons, List.not_mem_nil, or_false] at hx
      rcases hx with rfl | rfl | rfl | rfl <;> exact ⟨_, rfl, by decide, by decide⟩)
    refine ⟨_, e2, ?_⟩
    rw [w_seq]
    (try simp only [st0, st1, st2, st3, st4, st5, st6, w_forC, w_forN, x_jZm, x_par3, kPar3_eq, x_iZx, zx_L, zx_T, zx_LT, zx_TL, w_gSubD, q_addJ, x_iDk, w_augS, w_aug, x_slT, q_dk, q_dt, w_dp, w_md, eVar, isT, tyN, isNo, gsN, wipeR, kSq, viewL, viewS, reduceIte, reduceCtorEq, Nat.reduceAdd, String.reduceBEq, Int.reducePow, Int.reduceLT, Int.reduceLE, Nat.reduceLT, Nat.reduceLeDiff, Int.reduceToNat, List.getElem?_cons_zero, List.getElem?_cons_succ, List.set_cons_zero, List.set_cons_succ, List.length_cons, List.length_nil, if_true, Option.map_some, if_false, forall_const, List.length_map, Option.some.injEq, exists_eq_left', exists_eq_left, List.any_cons, List.any_nil, beq_self_eq_true, Option.isSome_some, exists_eq, exists_eq'])
    refine ⟨by omega, ?_⟩
    rw [rngD_I]
    obtain ⟨I, hI⟩ : ∃ X : Nat → List Val → Sto → Prop, X = fun (i : Nat) (acc : List Val) (S' : Sto) => ∃ rs : List (List Int), acc = rs.map (fun r => Val.d (vR r)) ∧ rs.length = i ∧ (∀ r ∈ rs, RwOk (R + e).toNat 1000000 r) ∧ Dr k (N + 4 + 15 * i) S S' := ⟨_, rfl⟩
    refine ⟨by omega, w_lcL I (by rw [hI]; exact ⟨[], rfl, rfl, by simp, g4'.mono (by omega)⟩) ?_ ?_⟩
    · intro i d acc S5 hd hh
      rw [hI] at hh
      obtain ⟨rs, rfl, hrl, hrw, g5⟩ := hh
      have hi := (List.getElem?_eq_some_iff.mp hd).1
      rw [List.length_map, rngI_len] at hi
      obtain ⟨d', hd', rfl⟩ := map_get hd
      (try simp only [st0, st1, st2, st3, st4, st5, st6, w_forC, w_forN, x_jZm, x_par3, kPar3_eq, x_iZx, zx_L, zx_T, zx_LT, zx_TL, w_gSubD, q_addJ, x_iDk, w_augS, w_aug, x_slT, q_dk, q_dt, w_dp, w_md, eVar, isT, tyN, isNo, gsN, wipeR, kSq, viewL, viewS, reduceIte, reduceCtorEq, Nat.reduceAdd, String.reduceBEq, Int.reducePow, Int.reduceLT, Int.reduceLE, Nat.reduceLT, Nat.reduceLeDiff, Int.reduceToNat, List.getElem?_cons_zero, List.getElem?_cons_succ, List.set_cons_zero, List.set_cons_succ, List.length_cons, List.length_nil, if_true, Option.map_some, if_false, forall_const, List.length_map, Option.some.injEq, exists_eq_left', exists_eq_left, List.any_cons, List.any_nil, beq_self_eq_true, Option.isSome_some, exists_eq, exists_eq'])
      refine yes_w ?_
      refine ⟨by omega, ?_⟩
      rw [rngD_I]
      obtain ⟨J, hJ⟩ : ∃ X : Nat → List Val → Sto → Prop, X = fun (j : Nat) (acc : List Val) (S' : Sto) => ∃ r : List Int, acc = r.map (fun x => Val.d (.int x)) ∧ r.length = j ∧ (∀ x ∈ r, 0 ≤ x ∧ x ≤ 1000000) ∧ Dr k (N + 4 + 15 * i + j) S S' := ⟨_, rfl⟩
      refine ⟨by omega, w_lcL J (by rw [hJ]; exact ⟨[], rfl, rfl, by simp, g5⟩) ?_ ?_⟩
      · intro j d2 acc2 S6 hd2 hh2
        rw [hJ] at hh2
        obtain ⟨r, rfl, hrl2, hrw2, g6⟩ := hh2
        have hj := (List.getElem?_eq_some_iff.mp hd2).1
        rw [List.length_map, rngI_len] at hj
        obtain ⟨d3, _, rfl⟩ := map_get hd2
        (try simp only [st0, st1, st2, st3, st4, st5, st6, w_forC, w_forN, x_jZm, x_par3, kPar3_eq, x_iZx, zx_L, zx_T, zx_LT, zx_TL, w_gSubD, q_addJ, x_iDk, w_augS, w_aug, x_slT, q_dk, q_dt, w_dp, w_md, eVar, isT, tyN, isNo, gsN, wipeR, kSq, viewL, viewS, reduceIte, reduceCtorEq, Nat.reduceAdd, String.reduceBEq, Int.reducePow, Int.reduceLT, Int.reduceLE, Nat.reduceLT, Nat.reduceLeDiff, Int.reduceToNat, List.getElem?_cons_zero, List.getElem?_cons_succ, List.set_cons_zero, List.set_cons_succ, List.length_cons, List.length_nil, if_true, Option.map_some, if_false, forall_const, List.length_map, Option.some.injEq, exists_eq_left', exists_eq_left, List.any_cons, List.any_nil, beq_self_eq_true, Option.isSome_some, exists_eq, exists_eq'])
        refine yes_w ?_
        refine take_i g6.box (by omega) (by omega) (by omega) fun x S7 x0 x1 g7 => ?_
        rw [hJ]
        refine ⟨r ++ [x], by simp, by rw [List.length_append, hrl2]; rfl, fun y hy => ?_, (g6.trans g7).mono (by omega)⟩
        rcases List.mem_append.mp hy with q' | q'
        · exact hrw2 y q'
        · rw [List.mem_singleton.mp q']
          omega
      · intro acc2 S6 hh2
        rw [hJ, List.length_map, rngI_len] at hh2
        obtain ⟨r, rfl, hrl2, hrw2, g6⟩ := hh2
        rw [show (r.map fun x => Val.d (PyData.int x)) = (r.map PyData.int).map Val.d by rw [List.map_map]; rfl, alloc_D, wp_some, hI]
        refine ⟨rs ++ [r], by simp [vR], by rw [List.length_append, hrl]; rfl, fun y hy => ?_, g6.mono (by omega)⟩
        rcases List.mem_append.mp hy with q' | q'
        · exact hrw y q'
        · rw [List.mem_singleton.mp q']
          exact ⟨hrl2, hrw2⟩
    intro acc S5 hh
    rw [hI, List.length_map, rngI_len] at hh
    obtain ⟨rs, rfl, hrl, hrw, g5⟩ := hh
    have g5' := g5.mono (show N + 4 + 15 * R.toNat ≤ N + 200 by omega)
    rw [show (rs.map fun r => Val.d (vR r)) = (rs.map vR).map Val.d by rw [List.map_map]; rfl]
    have hbl := hb.lt
    have g6 := g5'.gr.ex (Ex.new S5 (tc vR rs))
    obtain ⟨c, hc⟩ : ∃ c, c = S5.length := ⟨_, rfl⟩
    have hcl : S.length ≤ c := by rw [hc]; exact Nat.le_of_eq g5'.len.symm
    have k6 : (S5 ++ [tc vR rs])[c]? = some (tc vR rs) := by rw [hc]; exact get_new _ _
    rw [← hc]
    show QL.wpS (sSeq _ _ _ (S5 ++ [tc vR rs])) _
    generalize S5 ++ [tc vR rs] = S6 at k6 g6
    have fin : ∀ (rs : List (List Int)) (S7 : Sto), rs.length = R.toNat → (∀ r ∈ rs, RwOk (R + e).toNat 1000000 r) → Gr k (N + 250) S S7 → S7[c]? = some (tc vR rs) → QL.wpS (sFrz 6 (sRet (eFrz (eVar 6))) [some (.c k), some (.d (.int R)), some (.d (.int (R + e))), some (.d (.int M)), none, none, some (.c c)] S7) (fun fl x S1 => ∃ x, (fl = .rt (.d x) ∨ fl = .nx ∧ x = .none) ∧ Gr k (N + 300) S S1 ∧ ∃ cs n, x = vC cs ∧ CsOk cs n ∧ (cs = [] → n = 0) ∧ cs.length ≤ 12 ∧ n ≤ 12 ∧ ∀ r ∈ cs, ∀ x ∈ r, x ≤ 1000000) := by
      intro rs S7 hl hr g7 k7
      simp only [st0, st1, st2, st3, st4, st5, st6, w_seq, w_if, w_forC, w_forN, x_jZm, x_par3, kPar3_eq, x_iZx, zx_L, zx_T, zx_LT, zx_TL, w_gSubD, q_addJ, x_iDk, w_augS, w_aug, x_slT, q_dk, q_dt, w_dp, w_md, eVar, isT, tyN, isNo, gsN, wipeR, kSq, viewL, viewS, reduceIte, reduceCtorEq, Nat.reduceAdd, String.reduceBEq, Int.reducePow, Int.reduceLT, Int.reduceLE, Nat.reduceLT, Nat.reduceLeDiff, Int.reduceToNat, List.getElem?_cons_zero, List.getElem?_cons_succ, List.set_cons_zero, List.set_cons_succ, List.length_cons, List.length_nil, if_true, Option.map_some, if_false, forall_const, List.length_map, Option.some.injEq, exists_eq_left', exists_eq_left, List.any_cons, List.any_nil, beq_self_eq_true, Option.isSome_some, exists_eq, exists_eq', tc_frz k7]
      refine ⟨(g7.setN hcl hbl _).mono (by omega), rs, if rs = [] then 0 else (R + e).toNat, rfl, ?_, fun z => by rw [if_pos z], by omega, by split <;> omega, fun r hm x hx => ((hr r hm).2 x hx).2⟩
      refine ⟨fun r hm => ?_, fun r hm x hx => ((hr r hm).2 x hx).1, ?_, by split <;> omega⟩
      · rw [if_neg (fun z => by rw [z] at hm; cases hm)]
        exact (hr r hm).1
      · by_cases z : rs = []
        · rw [z]; simp
        · rw [if_neg z]
          omega
    obtain ⟨Mx, hMx⟩ : ∃ X : Rho → Sto → Prop, X = fun (ρ : Rho) (S' : Sto) => ∃ rs : List (List Int), ρ = [some (.c k), some (.d (.int R)), some (.d (.int (R + e))), some (.d (.int M)), none, none, some (.c c)] ∧ rs.length = R.toNat ∧ (∀ r ∈ rs, RwOk (R + e).toNat 1000000 r) ∧ Gr k (N + 250) S S' ∧ S'[c]? = some (tc vR rs) := ⟨_, rfl⟩
    refine w_cut Mx ?_ ?_
    · rw [w_if]
      (try simp only [st0, st1, st2, st3, st4, st5, st6, w_forC, w_forN, x_jZm, x_par3, kPar3_eq, x_iZx, zx_L, zx_T, zx_LT, zx_TL, w_gSubD, q_addJ, x_iDk, w_augS, w_aug, x_slT, q_dk, q_dt, w_dp, w_md, eVar, isT, tyN, isNo, gsN, wipeR, kSq, viewL, viewS, reduceIte, reduceCtorEq, Nat.reduceAdd, String.reduceBEq, Int.reducePow, Int.reduceLT, Int.reduceLE, Nat.reduceLT, Nat.reduceLeDiff, Int.reduceToNat, List.getElem?_cons_zero, List.getElem?_cons_succ, List.set_cons_zero, List.set_cons_succ, List.length_cons, List.length_nil, if_true, Option.map_some, if_false, forall_const, List.length_map, Option.some.injEq, exists_eq_left', exists_eq_left, List.any_cons, List.any_nil, beq_self_eq_true, Option.isSome_some, exists_eq, exists_eq'])
      refine ⟨fun h1 => ?_, fun h1 => ?_⟩
      · refine take_i g6.box (by omega) (by decide) (by decide) fun t S7 t0 t1 g7 => ?_
        have hck : c ≠ k := by omega
        have k7 := g7.get hck k6
        have g8 := (g6.dr g7).mono (show N + 200 + 1 ≤ N + 250 by omega)
        (try simp only [st0, st1, st2, st3, st4, st5, st6, w_forC, w_forN, x_jZm, x_par3, kPar3_eq, x_iZx, zx_L, zx_T, zx_LT, zx_TL, w_gSubD, q_addJ, x_iDk, w_augS, w_aug, x_slT, q_dk, q_dt, w_dp, w_md, eVar, isT, tyN, isNo, gsN, wipeR, kSq, viewL, viewS, reduceIte, reduceCtorEq, Nat.reduceAdd, String.reduceBEq, Int.reducePow, Int.reduceLT, Int.reduceLE, Nat.reduceLT, Nat.reduceLeDiff, Int.reduceToNat, List.getElem?_cons_zero, List.getElem?_cons_succ, List.set_cons_zero, List.set_cons_succ, List.length_cons, List.length_nil, if_true, Option.map_some, if_false, forall_const, List.length_map, Option.some.injEq, exists_eq_left', exists_eq_left, List.any_cons, List.any_nil, beq_self_eq_true, Option.isSome_some, exists_eq, exists_eq'])
        refine ⟨fun h2 => ?_, fun h2 => ?_⟩
        · have e0 : atI rs 0 = some (rs[0]'(by omega)) := by
            unfold atI ixN
            rw [if_pos (Int.le_refl _), if_pos (by omega)]
            exact List.getElem?_eq_getElem (by omega)
          have hm0 : rs[0]'(by omega) ∈ rs := List.getElem_mem _
          generalize rs[0]'(by omega) = r0 at e0 hm0
          have hix : gIx (.c c) (.d (.int 0)) S7 = some (.d (vR r0), S7) := by
            rw [tc_ix k7, e0]
            rfl
          have hset : setIx (.c c) (.d (.int (-1))) (.d (vR r0)) S7 = some (S7.set c (tc vR (rs.set (rs.length - 1) r0))) := by
            have k7' : S7[c]? = some (.lst ((rs.map vR).map .d)) := k7
            rw [q_setC (n := rs.length - 1) k7' (by
              unfold ixN
              rw [if_neg (by decide), List.length_map, List.length_map, if_pos (by omega)]
              congr 1
              omega)]
            unfold tc
            rw [List.map_set, List.map_set]
          rw [hix, wp_some]
          unfold vR
          (try simp only [st0, st1, st2, st3, st4, st5, st6, w_forC, w_forN, x_jZm, x_par3, kPar3_eq, x_iZx, zx_L, zx_T, zx_LT, zx_TL, w_gSubD, q_addJ, x_iDk, w_augS, w_aug, x_slT, q_dk, q_dt, w_dp, w_md, eVar, isT, tyN, isNo, gsN, wipeR, kSq, viewL, viewS, reduceIte, reduceCtorEq, Nat.reduceAdd, String.reduceBEq, Int.reducePow, Int.reduceLT, Int.reduceLE, Nat.reduceLT, Nat.reduceLeDiff, Int.reduceToNat, List.getElem?_cons_zero, List.getElem?_cons_succ, List.set_cons_zero, List.set_cons_succ, List.length_cons, List.length_nil, if_true, Option.map_some, if_false, forall_const, List.length_map, Option.some.injEq, exists_eq_left', exists_eq_left, List.any_cons, List.any_nil, beq_self_eq_true, Option.isSome_some, exists_eq, exists_eq'])
          refine ⟨_, hset, ?_⟩
          rw [hMx]
          refine ⟨rs.set (rs.length - 1) r0, rfl, by rw [List.length_set]; exact hrl, fun r hm => ?_, g8.setN hcl hbl _, get_set k7⟩
          rcases List.mem_or_eq_of_mem_set hm with q' | q'
          · exact hrw r q'
          · rw [q']
            exact hrw r0 hm0
        · rw [hMx]
          exact ⟨rs, rfl, hrl, hrw, g8, k7⟩
      · rw [hMx]
        exact ⟨rs, rfl, hrl, hrw, g6.mono (by omega), k6⟩
    · intro ρ S7 hh
      rw [hMx] at hh
      obtain ⟨rs, rfl, h1, h2, h3, h4⟩ := hh
      exact fin rs S7 h1 h2 h3 h4
  obtain ⟨r, S', e, x, rfl, g, cs, n, rfl, h1, h2, h3, h4, h5⟩ := key
  exact ⟨_, _, e, q cs n S' h1 h2 h3 h4 h5 g⟩

end QW

namespace QW
open PySem PySem.Spec PyProof.Rows L2 QL
/-! ### matchings or not -/
def sumC (cs : List (List Int)) (cols : List Int) : Int := ((enI cols).map fun p => CC cs p.1 p.2).sum
def sumZ (cs : List (List Int)) (cols : List Int) : Int := ((cs.zip cols).map fun p => (atI p.1 p.2).getD 0).sum
theorem enI_get {α : Type} (xs : List α) (i : Nat) : (enI xs)[i]? = xs[i]?.map fun x => ((i : Int), x) := by
  unfold enI
  rw [List.getElem?_map, List.getElem?_zipIdx]
  cases xs[i]? <;> simp
theorem enI_len {α : Type} (xs : List α) : (enI xs).length = xs.length := by unfold enI; simp
theorem atI_nat {α : Type} {xs : List α} {i : Nat} (h : i < xs.length) : atI xs (i : Int) = xs[i]? := by
  unfold atI ixN
  rw [if_pos (by omega), if_pos (by omega)]
  simp
theorem sumCZ {cs : List (List Int)} {cols : List Int} (h : cols.length = cs.length) : sumC cs cols = sumZ cs cols := by
  unfold sumC sumZ
  congr 1
  apply List.ext_getElem?
  intro i
  rw [List.getElem?_map, List.getElem?_map, enI_get]
  by_cases hi : i < cols.length
  · have e1 : cols[i]? = some cols[i] := List.getElem?_eq_getElem hi
    have e2 : cs[i]? = some (cs[i]'(by omega)) := List.getElem?_eq_getElem (by omega)
    have e3 := List.getElem?_zip_eq_some.mpr (show cs[i]? = some (cs[i]'(by omega), cols[i]).1 ∧ cols[i]? = some (cs[i]'(by omega), cols[i]).2 from ⟨e2, e1⟩)
    rw [e1, e3]
    simp only [Option.map_some, Option.some.injEq]
    unfold CC
    rw [atI_nat (by omega), e2]
    rfl
  · have e3 : (cs.zip cols)[i]? = none := List.getElem?_eq_none (by rw [List.length_zip]; omega)
    rw [e3, List.getElem?_eq_none (by omega)]
    rfl
theorem jEn_eq {fs : Af} {ρ : Rho} {S S1 : Sto} {a : Val} (h : fs ρ S = some ([a], S1)) (hv : (viewQ S1 a).isSome = true) (ht : isTu a = false) : jEn fs ρ S = some (dEn a, S1) := by
  unfold jEn
  simp only [h]
  rw [if_pos ⟨hv, ht⟩]
theorem dEn_tc {S : Sto} {a : Val} {cols : List Int} (hv : viewQ S a = some ((cols.map PyData.int).map Val.d)) (i : Nat) : dEn a S i = some ((enI cols).map fun p => Val.d (vE PyData.int p))[i]? := by
  unfold dEn
  simp only [hv]
  rw [List.getElem?_map, List.getElem?_map, List.getElem?_map, enI_get]
  cases cols[i]? <;> rfl
section
variable {S W : Sto} {cs : List (List Int)} {n : Nat} {x y : PyData}
theorem sumat_eq {a : Val} {cols : List Int} (hv : viewQ S a = some ((cols.map PyData.int).map .d)) (ht : isTu a = false) (h : CsOk cs n) (hl : cols.length ≤ cs.length) (hc : ∀ c ∈ cols, 0 ≤ c ∧ c < (n : Int)) : p_sum_at [.d (vC cs), a] S = some (.d (.int (sumC cs cols)), S) := by
  have hn1 := h.n1
  have hle := h.le
  unfold p_sum_at
  refine w_fnE ?_
  show wpS (f_sum_at [some (.d (vC cs)), some (a), none, none] _) _
  unfold f_sum_at
  (try simp only [st0, st1, st2, st3, st4, st5, st6, w_forC, w_forN, x_jZm, x_par3, kPar3_eq, x_iZx, zx_L, zx_T, zx_LT, zx_TL, w_gSubD, q_addJ, x_iDk, w_augS, w_aug, x_slT, q_dk, q_dt, w_dp, w_md, eVar, isT, tyN, isNo, gsN, wipeR, kSq, viewL, viewS, reduceIte, reduceCtorEq, Nat.reduceAdd, String.reduceBEq, Int.reducePow, Int.reduceLT, Int.reduceLE, Nat.reduceLT, Nat.reduceLeDiff, Int.reduceToNat, List.getElem?_cons_zero, List.getElem?_cons_succ, List.set_cons_zero, List.set_cons_succ, List.length_cons, List.length_nil, if_true, Option.map_some, if_false, forall_const, List.length_map, Option.some.injEq, exists_eq_left', exists_eq_left, List.any_cons, List.any_nil, beq_self_eq_true, Option.isSome_some, exists_eq, exists_eq'])
  rw [jEn_eq (a := a) (S1 := S) rfl (by rw [hv]; rfl) ht, wp_some]
  refine w_lcDM (xs := enI cols) (v := fun p => Val.d (vE PyData.int p)) (fun p => .int (CC cs p.1 p.2)) (fun i => dEn_tc hv i) (by rw [enI_len]; omega) (fun p hp => ?_) ?_
  · obtain ⟨r, c⟩ := p
    obtain ⟨r0, e⟩ := enI_mem hp
    have r1 := atI_some r0 e
    have hcm : c ∈ cols := by
      unfold atI ixN at e
      rw [if_pos r0, if_pos r1] at e
      exact List.mem_of_getElem? e
    have hc2 := hc c hcm
    obtain ⟨row, e1, e2, _⟩ := cs_cell h r0 (by omega : r < cs.length) hc2.1 hc2.2
    simp only [st0, st1, st2, st3, st4, st5, st6, w_seq, w_if, w_forC, w_forN, x_jZm, x_par3, kPar3_eq, x_iZx, zx_L, zx_T, zx_LT, zx_TL, w_gSubD, q_addJ, x_iDk, w_augS, w_aug, x_slT, q_dk, q_dt, w_dp, w_md, eVar, isT, tyN, isNo, gsN, wipeR, kSq, viewL, viewS, reduceIte, reduceCtorEq, Nat.reduceAdd, String.reduceBEq, Int.reducePow, Int.reduceLT, Int.reduceLE, Nat.reduceLT, Nat.reduceLeDiff, Int.reduceToNat, List.getElem?_cons_zero, List.getElem?_cons_succ, List.set_cons_zero, List.set_cons_succ, List.length_cons, List.length_nil, if_true, Option.map_some, if_false, forall_const, List.length_map, Option.some.injEq, exists_eq_left', exists_eq_left, List.any_cons, List.any_nil, beq_self_eq_true, Option.isSome_some, exists_eq, exists_eq', g2e, cs_ix e1, row_ix e2]
  · rw [alloc_D, wp_some, q_sumF, wp_some]
    exact ⟨rfl, Ex.refl _⟩
end

end QW

namespace QW
open PySem PySem.Spec PyProof.Rows L2 QL
/-! ### columns of a matching -/
noncomputable def colM (s : Ms) (r : Int) : Int := by
  classical exact if h : ∃ c, s.ow c = some r then h.choose else 0
theorem colM_ok {s : Ms} {r : Int} (h : ∃ c, s.ow c = some r) : s.ow (colM s r) = some r := by
  unfold colM
  rw [dif_pos h]
  exact h.choose_spec
section
variable {S W : Sto} {cs : List (List Int)} {n : Nat}
end

end QW

namespace QW
open PySem PySem.Spec PyProof.Rows L2 QL
section
variable {S W : Sto} {cs : List (List Int)} {n : Nat}
theorem matched_c {M : Int} {Q : Val → Sto → Prop} (h : CsOk cs n) (hM : ∀ r c, 0 ≤ r → r < (cs.length : Int) → 0 ≤ c → c < (n : Int) → CC cs r c ≤ M) (h0 : cs = [] → n = 0)
    (q : Q (.t [.d (.int (sumC cs ((rngI cs.length).map (colM (seqG cs n M cs.length))))), .c (S.length + 4)]) (mtS S cs n (seqG cs n M cs.length) [tc PyData.int ((rngI cs.length).map (colM (seqG cs n M cs.length)))])) : wp (p_matched_slots [.d (vC cs)] S) Q := by
  have hle := h.le
  have hn1 := h.n1
  unfold p_matched_slots
  refine w_fnA ?_
  show wpS (f_matched_slots [some (.d (vC cs)), none, none, none] _) _
  unfold f_matched_slots
  rw [w_seq]
  (try simp only [st0, st1, st2, st3, st4, st5, st6, w_forC, w_forN, x_jZm, x_par3, kPar3_eq, x_iZx, zx_L, zx_T, zx_LT, zx_TL, w_gSubD, q_addJ, x_iDk, w_augS, w_aug, x_slT, q_dk, q_dt, w_dp, w_md, eVar, isT, tyN, isNo, gsN, wipeR, kSq, viewL, viewS, reduceIte, reduceCtorEq, Nat.reduceAdd, String.reduceBEq, Int.reducePow, Int.reduceLT, Int.reduceLE, Nat.reduceLT, Nat.reduceLeDiff, Int.reduceToNat, List.getElem?_cons_zero, List.getElem?_cons_succ, List.set_cons_zero, List.set_cons_succ, List.length_cons, List.length_nil, if_true, Option.map_some, if_false, forall_const, List.length_map, Option.some.injEq, exists_eq_left', exists_eq_left, List.any_cons, List.any_nil, beq_self_eq_true, Option.isSome_some, exists_eq, exists_eq'])
  refine full_c h hM h0 ?_
  obtain ⟨hd, hb⟩ := seqG_ok h hM cs.length (Nat.le_refl _)
  generalize seqG cs n M cs.length = s at hd hb q
  have hcol : ∀ r, 0 ≤ r → r < (cs.length : Int) → (0 ≤ colM s r ∧ colM s r < (n : Int)) ∧ s.ow (colM s r) = some r := fun r r0 r1 => by
    have e := colM_ok (hd.al r r0 r1)
    exact ⟨(hd.ow _ _ e).1, e⟩
  (try simp only [st0, st1, st2, st3, st4, st5, st6, w_forC, w_forN, x_jZm, x_par3, kPar3_eq, x_iZx, zx_L, zx_T, zx_LT, zx_TL, w_gSubD, q_addJ, x_iDk, w_augS, w_aug, x_slT, q_dk, q_dt, w_dp, w_md, eVar, isT, tyN, isNo, gsN, wipeR, kSq, viewL, viewS, reduceIte, reduceCtorEq, Nat.reduceAdd, String.reduceBEq, Int.reducePow, Int.reduceLT, Int.reduceLE, Nat.reduceLT, Nat.reduceLeDiff, Int.reduceToNat, List.getElem?_cons_zero, List.getElem?_cons_succ, List.set_cons_zero, List.set_cons_succ, List.length_cons, List.length_nil, if_true, Option.map_some, if_false, forall_const, List.length_map, Option.some.injEq, exists_eq_left', exists_eq_left, List.any_cons, List.any_nil, beq_self_eq_true, Option.isSome_some, exists_eq, exists_eq'])
  rw [w_seq]
  have hln : gLen [Val.d (vC cs)] (mtS S cs n s []) = some (.d (.int cs.length), mtS S cs n s []) := lenC
  (try simp only [st0, st1, st2, st3, st4, st5, st6, w_forC, w_forN, x_jZm, x_par3, kPar3_eq, x_iZx, zx_L, zx_T, zx_LT, zx_TL, w_gSubD, q_addJ, x_iDk, w_augS, w_aug, x_slT, q_dk, q_dt, w_dp, w_md, eVar, isT, tyN, isNo, gsN, wipeR, kSq, viewL, viewS, reduceIte, reduceCtorEq, Nat.reduceAdd, String.reduceBEq, Int.reducePow, Int.reduceLT, Int.reduceLE, Nat.reduceLT, Nat.reduceLeDiff, Int.reduceToNat, List.getElem?_cons_zero, List.getElem?_cons_succ, List.set_cons_zero, List.set_cons_succ, List.length_cons, List.length_nil, if_true, Option.map_some, if_false, forall_const, List.length_map, Option.some.injEq, exists_eq_left', exists_eq_left, List.any_cons, List.any_nil, beq_self_eq_true, Option.isSome_some, exists_eq, exists_eq', hln])
  refine ⟨by omega, ?_⟩
  rw [Int.toNat_natCast, rngD_I]
  refine ⟨by omega, w_lcX (v := PyData.int) (fun r => .int (colM s r)) (fun r hr => ?_) ?_⟩
  · have hr2 := rngI_mem.mp hr
    obtain ⟨h1, h2⟩ := hcol r hr2.1 hr2.2
    have hcs := col_some (S := S) (W := []) (cs := cs) (s := s) (r := r) (by simp) h1.1 h1.2 h2 (fun c' e => hd.inj c' _ r e h2)
    (try simp only [st0, st1, st2, st3, st4, st5, st6, w_forC, w_forN, x_jZm, x_par3, kPar3_eq, x_iZx, zx_L, zx_T, zx_LT, zx_TL, w_gSubD, q_addJ, x_iDk, w_augS, w_aug, x_slT, q_dk, q_dt, w_dp, w_md, eVar, isT, tyN, isNo, gsN, wipeR, kSq, viewL, viewS, reduceIte, reduceCtorEq, Nat.reduceAdd, String.reduceBEq, Int.reducePow, Int.reduceLT, Int.reduceLE, Nat.reduceLT, Nat.reduceLeDiff, Int.reduceToNat, List.getElem?_cons_zero, List.getElem?_cons_succ, List.set_cons_zero, List.set_cons_succ, List.length_cons, List.length_nil, if_true, Option.map_some, if_false, forall_const, List.length_map, Option.some.injEq, exists_eq_left', exists_eq_left, List.any_cons, List.any_nil, beq_self_eq_true, Option.isSome_some, exists_eq, exists_eq', x_eMeth])
    rw [mm_meth rfl]
    (try simp only [st0, st1, st2, st3, st4, st5, st6, w_forC, w_forN, x_jZm, x_par3, kPar3_eq, x_iZx, zx_L, zx_T, zx_LT, zx_TL, w_gSubD, q_addJ, x_iDk, w_augS, w_aug, x_slT, q_dk, q_dt, w_dp, w_md, eVar, isT, tyN, isNo, gsN, wipeR, kSq, viewL, viewS, reduceIte, reduceCtorEq, Nat.reduceAdd, String.reduceBEq, Int.reducePow, Int.reduceLT, Int.reduceLE, Nat.reduceLT, Nat.reduceLeDiff, Int.reduceToNat, List.getElem?_cons_zero, List.getElem?_cons_succ, List.set_cons_zero, List.set_cons_succ, List.length_cons, List.length_nil, if_true, Option.map_some, if_false, forall_const, List.length_map, Option.some.injEq, exists_eq_left', exists_eq_left, List.any_cons, List.any_nil, beq_self_eq_true, Option.isSome_some, exists_eq, exists_eq', hcs])
  rw [mapI]
  have e1 : mtS S cs n s [] ++ [Cell.lst ((((rngI cs.length).map (colM s)).map PyData.int).map Val.d)] = mtS S cs n s [tc PyData.int ((rngI cs.length).map (colM s))] := mt_app
  have e2 : (mtS S cs n s []).length = S.length + 4 := mt_len
  rw [e1, e2]
  have hrg : ∀ c ∈ (rngI cs.length).map (colM s), 0 ≤ c ∧ c < (n : Int) := fun c hc => by
    obtain ⟨r, hr, rfl⟩ := List.mem_map.mp hc
    have := rngI_mem.mp hr
    exact (hcol r this.1 this.2).1
  rw [sumat_eq (tc_vQ mt_4) rfl h (by rw [List.length_map, rngI_len]; exact Nat.le_refl _) hrg, wp_some]
  unfold mkT
  rw [show unD [Val.d (PyData.int (sumC cs ((rngI cs.length).map (colM s)))), Val.c (S.length + 4)] = none from rfl]
  exact wp_some.mpr q
end

end QW

namespace QW
open PySem PySem.Spec PyProof.Rows L2 QL
/-! ### the least sum of all matchings, in plain Lean -/
def mkN (cols : List Int) : Nat := (cols.map fun c => 2 ^ c.toNat).sum
theorem bit_add {m c j : Nat} (h : m / 2 ^ c % 2 = 0) : (m + 2 ^ c) / 2 ^ j % 2 = if j = c then 1 else m / 2 ^ j % 2 := by
  have pos : ∀ i : Nat, 0 < 2 ^ i := fun i => Nat.pow_pos (by decide)
  rcases Nat.lt_trichotomy j c with hj | hj | hj
  · rw [if_neg (by omega)]
    obtain ⟨q, rfl⟩ : ∃ q, c = j + 1 + q := ⟨c - (j + 1), by omega⟩
    rw [show 2 ^ (j + 1 + q) = 2 ^ j * (2 * 2 ^ q) by rw [Nat.pow_add, Nat.pow_succ, Nat.mul_assoc], Nat.add_mul_div_left _ _ (pos j)]
    omega
  · subst hj
    rw [if_pos rfl, Nat.add_div_right _ (pos j)]
    omega
  · rw [if_neg (by omega)]
    obtain ⟨q, rfl⟩ : ∃ q, j = c + 1 + q := ⟨j - (c + 1), by omega⟩
    have e : ∀ x : Nat, x / 2 ^ (c + 1 + q) = x / 2 ^ c / 2 / 2 ^ q := fun x => by
      rw [Nat.div_div_eq_div_mul, Nat.div_div_eq_div_mul]
      congr 1
      rw [Nat.pow_add, Nat.pow_succ, Nat.mul_assoc]
    rw [e, e, Nat.add_div_right _ (pos c)]
    have : (m / 2 ^ c + 1) / 2 = m / 2 ^ c / 2 := by omega
    rw [this]
theorem mkN_bit : ∀ {cols : List Int}, cols.Nodup → (∀ c ∈ cols, 0 ≤ c) → ∀ j : Nat, mkN cols / 2 ^ j % 2 = if (j : Int) ∈ cols then 1 else 0
  | [], _, _, j => by simp [mkN]
  | c :: t, hn, h0, j => by
    have hn' := List.nodup_cons.mp hn
    have ih := mkN_bit hn'.2 fun x hx => h0 x (List.mem_cons_of_mem _ hx)
    have hc0 := h0 c (by simp)
    have hcc : ((c.toNat : Nat) : Int) = c := by omega
    have hb : mkN t / 2 ^ c.toNat % 2 = 0 := by rw [ih, hcc, if_neg hn'.1]
    have e : mkN (c :: t) = mkN t + 2 ^ c.toNat := by unfold mkN; rw [List.map_cons, List.sum_cons, Nat.add_comm]
    rw [e, bit_add hb, ih]
    by_cases z : j = c.toNat
    · rw [if_pos z, if_pos (by rw [z, hcc]; simp)]
    · rw [if_neg z]
      by_cases z2 : (j : Int) ∈ t
      · rw [if_pos z2, if_pos (List.mem_cons_of_mem _ z2)]
      · rw [if_neg z2, if_neg (fun q => by rcases List.mem_cons.mp q with q | q; exact z (by omega); exact z2 q)]
theorem mkN_app (cols : List Int) (k : Int) : mkN (cols ++ [k]) = mkN cols + 2 ^ k.toNat := by
  unfold mkN
  rw [List.map_append, List.sum_append]
  simp
/-- columns of the first rows, each its own -/
structure Asg (n i : Nat) (cols : List Int) : Prop where
  len : cols.length = i
  nd : cols.Nodup
  rg : ∀ c ∈ cols, 0 ≤ c ∧ c < (n : Int)
/-- what the sums are behind so many rows -/
structure Dp (cs : List (List Int)) (n i : Nat) (kv : List (Int × Int)) : Prop where
  nd : (kv.map Prod.fst).Nodup
  snd : ∀ p ∈ kv, ∃ cols, Asg n i cols ∧ p.1 = (mkN cols : Int) ∧ p.2 = sumZ (cs.take i) cols
  cmp : ∀ cols, Asg n i cols → ∃ t, ((mkN cols : Int), t) ∈ kv ∧ t ≤ sumZ (cs.take i) cols
theorem Dp.start (cs : List (List Int)) (n : Nat) : Dp cs n 0 [(0, 0)] := by
  refine ⟨by simp, fun p hp => ⟨[], ⟨rfl, by simp, by simp⟩, ?_, ?_⟩, fun cols h => ⟨0, ?_, ?_⟩⟩
  · rw [List.mem_singleton.mp hp]; rfl
  · rw [List.mem_singleton.mp hp]; rfl
  · rw [List.eq_nil_of_length_eq_zero h.len]; simp [mkN]
  · rw [List.eq_nil_of_length_eq_zero h.len]; simp [sumZ]
/-- while the next row is gone through: what is met of sums and columns -/
structure Dq (cs : List (List Int)) (n i : Nat) (row : List Int) (done : Int → Int → Int → Prop) (kv : List (Int × Int)) : Prop where
  nd : (kv.map Prod.fst).Nodup
  snd : ∀ p ∈ kv, ∃ cols, Asg n (i + 1) cols ∧ p.1 = (mkN cols : Int) ∧ p.2 = sumZ (cs.take (i + 1)) cols
  cmp : ∀ cols t k, done (mkN cols) t k → Asg n i cols → 0 ≤ k → k < n → k ∉ cols → ∃ t', ((mkN cols : Int) + 2 ^ k.toNat, t') ∈ kv ∧ t' ≤ t + (atI row k).getD 0
def cget (kv : List (Int × Int)) (x d : Int) : Int := (cmF kv x).getD d
def cput (kv : List (Int × Int)) (x v : Int) : List (Int × Int) := if x ∈ kv.map Prod.fst then kv.map (fun p => if p.1 = x then (p.1, v) else p) else kv ++ [(x, v)]
theorem cput_keys {kv : List (Int × Int)} {x v : Int} (h : (kv.map Prod.fst).Nodup) : ((cput kv x v).map Prod.fst).Nodup := by
  unfold cput
  split
  · have e : (kv.map fun p => if p.1 = x then (p.1, v) else p).map Prod.fst = kv.map Prod.fst := by
      rw [List.map_map]
      apply List.map_congr_left
      intro p _
      show (if p.1 = x then (p.1, v) else p).1 = p.1
      split <;> rfl
    rw [e]; exact h
  · rename_i hx
    rw [List.map_append, List.nodup_append]
    refine ⟨h, by simp, fun a ha b hb e => ?_⟩
    rw [List.map_cons, List.map_nil, List.mem_singleton] at hb
    rw [e, hb] at ha
    exact hx ha
theorem cput_mem {kv : List (Int × Int)} {x v : Int} {p : Int × Int} : p ∈ cput kv x v ↔ p = (x, v) ∨ (p ∈ kv ∧ p.1 ≠ x) := by
  unfold cput
  split
  · rename_i hx
    obtain ⟨q, hq, eq⟩ := List.mem_map.mp hx
    rw [List.mem_map]
    constructor
    · rintro ⟨r, hr, rfl⟩
      by_cases z : r.1 = x
      · rw [if_pos z, z]; exact .inl rfl
      · rw [if_neg z]; exact .inr ⟨hr, z⟩
    · rintro (rfl | ⟨h1, h2⟩)
      · exact ⟨q, hq, by rw [if_pos eq, eq]⟩
      · exact ⟨p, h1, if_neg h2⟩
  · rename_i hx
    rw [List.mem_append, List.mem_singleton]
    constructor
    · rintro (h | h)
      · exact .inr ⟨h, fun z => hx (List.mem_map.mpr ⟨p, h, z⟩)⟩
      · exact .inl h
    · rintro (h | ⟨h, _⟩)
      · exact .inr h
      · exact .inl h
theorem cmF_mem {kv : List (Int × Int)} (h : (kv.map Prod.fst).Nodup) {x v : Int} : cmF kv x = some v ↔ (x, v) ∈ kv := by
  unfold cmF
  induction kv with
  | nil => simp
  | cons p t ih =>
    have h' := List.nodup_cons.mp h
    rw [List.find?_cons]
    by_cases e : p.1 = x
    · simp only [e, decide_true, Option.map_some, Option.some.injEq, List.mem_cons]
      constructor
      · intro e2; exact .inl (by rw [← e, ← e2])
      · rintro (e2 | e2)
        · rw [← e2]
        · exact absurd (List.mem_map.mpr ⟨_, e2, e.symm⟩) h'.1
    · simp only [decide_eq_false e, List.mem_cons]
      rw [ih h'.2]
      constructor
      · exact .inr
      · rintro (e2 | e2)
        · rw [← e2] at e; exact absurd rfl e
        · exact e2
section
variable {cs : List (List Int)} {n i : Nat} {row : List Int}
theorem sumZ_app {cols : List Int} {k : Int} (hi : cs[i]? = some row) (hl : cols.length = i) : sumZ (cs.take (i + 1)) (cols ++ [k]) = sumZ (cs.take i) cols + (atI row k).getD 0 := by
  have hlt := (List.getElem?_eq_some_iff.mp hi).1
  have e : cs.take (i + 1) = cs.take i ++ [row] := by rw [List.take_add_one, hi]; rfl
  unfold sumZ
  rw [e, List.zip_append (by rw [List.length_take]; omega), List.map_append, List.sum_append]
  simp
theorem Dq.start (cs : List (List Int)) (n i : Nat) (row : List Int) : Dq cs n i row (fun _ _ _ => False) [] := ⟨by simp, by simp, fun _ _ _ h => h.elim⟩
theorem Dq.skip {kv : List (Int × Int)} {done : Int → Int → Int → Prop} {used total k : Int} (h : Dq cs n i row done kv) (hk : 0 ≤ k) {cols0 : List Int} (ha : Asg n i cols0) (hu : used = (mkN cols0 : Int)) (hb : ¬ used / 2 ^ k.toNat % 2 = 0) : Dq cs n i row (fun u t j => done u t j ∨ (u = used ∧ t = total ∧ j = k)) kv := by
  refine ⟨h.nd, h.snd, fun cols t j hd hA j0 j1 hj => ?_⟩
  rcases hd with hd | ⟨e1, e2, e3⟩
  · exact h.cmp cols t j hd hA j0 j1 hj
  · exfalso
    apply hb
    subst e3
    rw [← e1]
    have := mkN_bit hA.nd (fun c hc => (hA.rg c hc).1) j.toNat
    rw [show ((j.toNat : Nat) : Int) = j by omega, if_neg hj] at this
    have e : ((mkN cols : Nat) : Int) / 2 ^ j.toNat % 2 = ((mkN cols / 2 ^ j.toNat % 2 : Nat) : Int) := by push_cast; rfl
    rw [e, this]
    rfl
theorem Dq.step {kv : List (Int × Int)} {done : Int → Int → Int → Prop} {used total k one : Int} (h : Dq cs n i row done kv) (hi : cs[i]? = some row) (hk : 0 ≤ k ∧ k < (n : Int)) (ho : atI row k = some one) {cols0 : List Int} (ha : Asg n i cols0) (hu : used = (mkN cols0 : Int)) (ht : total = sumZ (cs.take i) cols0) (hb : used / 2 ^ k.toNat % 2 = 0) :
    Dq cs n i row (fun u t j => done u t j ∨ (u = used ∧ t = total ∧ j = k)) (cput kv (used + 2 ^ k.toNat) (min (cget kv (used + 2 ^ k.toNat) (total + one)) (total + one))) := by
  have hkn : k ∉ cols0 := fun z => by
    have := mkN_bit ha.nd (fun c hc => (ha.rg c hc).1) k.toNat
    rw [show ((k.toNat : Nat) : Int) = k by omega, if_pos z] at this
    have e : ((mkN cols0 : Nat) : Int) / 2 ^ k.toNat % 2 = ((mkN cols0 / 2 ^ k.toNat % 2 : Nat) : Int) := by push_cast; rfl
    rw [hu, e, this] at hb
    exact absurd hb (by decide)
  have hA1 : Asg n (i + 1) (cols0 ++ [k]) := by
    refine ⟨by rw [List.length_append, ha.len]; rfl, ?_, fun c hc => ?_⟩
    · rw [List.nodup_append]
      exact ⟨ha.nd, by simp, fun a ha' b hb' e => by rw [List.mem_singleton.mp hb'] at e; rw [e] at ha'; exact hkn ha'⟩
    · rcases List.mem_append.mp hc with q | q
      · exact ha.rg c q
      · rw [List.mem_singleton.mp q]; exact hk
  have hm1 : used + 2 ^ k.toNat = ((mkN (cols0 ++ [k]) : Nat) : Int) := by rw [mkN_app, hu]; push_cast; rfl
  have hs1 : total + one = sumZ (cs.take (i + 1)) (cols0 ++ [k]) := by rw [sumZ_app hi ha.len, ht, ho]; rfl
  obtain ⟨key, hkey⟩ : ∃ key, key = used + 2 ^ k.toNat := ⟨_, rfl⟩
  rw [← hkey] at hm1 ⊢
  have hle : min (cget kv key (total + one)) (total + one) ≤ total + one := Int.min_le_right _ _
  refine ⟨cput_keys h.nd, fun p hp => ?_, fun cols t j hd hA j0 j1 hj => ?_⟩
  · rcases cput_mem.mp hp with rfl | ⟨h1, _⟩
    · by_cases z : cget kv key (total + one) ≤ total + one
      · rw [Int.min_eq_left z]
        cases e : cmF kv key with
        | none =>
          have : cget kv key (total + one) = total + one := by unfold cget; rw [e]; rfl
          rw [this]
          exact ⟨_, hA1, hm1, hs1⟩
        | some v =>
          have e2 : cget kv key (total + one) = v := by unfold cget; rw [e]; rfl
          rw [e2]
          exact h.snd (key, v) ((cmF_mem h.nd).mp e)
      · rw [Int.min_eq_right (by omega)]
        exact ⟨_, hA1, hm1, hs1⟩
    · exact h.snd p h1
  · rcases hd with hd | ⟨e1, e2, e3⟩
    · obtain ⟨t', h1, h2⟩ := h.cmp cols t j hd hA j0 j1 hj
      by_cases z : (mkN cols : Int) + 2 ^ j.toNat = key
      · refine ⟨_, cput_mem.mpr (.inl (by rw [z])), ?_⟩
        rw [z] at h1
        have e : cget kv key (total + one) = t' := by unfold cget; rw [(cmF_mem h.nd).mpr h1]; rfl
        rw [e]
        exact Int.le_trans (Int.min_le_left _ _) h2
      · exact ⟨t', cput_mem.mpr (.inr ⟨h1, z⟩), h2⟩
    · subst e2 e3
      refine ⟨min (cget kv key (t + one)) (t + one), cput_mem.mpr (.inl (by rw [e1, ← hkey])), ?_⟩
      rw [ho]
      exact hle
theorem Dp.next {kv kv2 : List (Int × Int)} {done : Int → Int → Int → Prop} (h : Dp cs n i kv) (hi : cs[i]? = some row) (q : Dq cs n i row done kv2) (hd : ∀ p ∈ kv, ∀ k : Int, 0 ≤ k → k < n → done p.1 p.2 k) : Dp cs n (i + 1) kv2 := by
  refine ⟨q.nd, q.snd, fun cols hA => ?_⟩
  obtain ⟨c0, k, rfl⟩ : ∃ c0 k, cols = c0 ++ [k] := by
    have : cols ≠ [] := fun z => by have := hA.len; rw [z] at this; cases this
    exact ⟨cols.dropLast, cols.getLast this, (List.dropLast_concat_getLast this).symm⟩
  have hn := List.nodup_append.mp hA.nd
  have hA0 : Asg n i c0 := ⟨by have := hA.len; rw [List.length_append] at this; simpa using this, hn.1, fun c hc => hA.rg c (List.mem_append_left _ hc)⟩
  have hk := hA.rg k (by simp)
  have hkn : k ∉ c0 := fun z => hn.2.2 k z k (by simp) rfl
  obtain ⟨t, h1, h2⟩ := h.cmp c0 hA0
  obtain ⟨t', h3, h4⟩ := q.cmp c0 t k (hd _ h1 k hk.1 hk.2) hA0 hk.1 hk.2 hkn
  refine ⟨t', ?_, ?_⟩
  · rw [mkN_app]
    push_cast
    exact h3
  · rw [sumZ_app hi hA0.len]
    omega
end

end QW

namespace QW
open PySem PySem.Spec PyProof.Rows L2 QL
/-! ### no matching is less -/
theorem sum_erase {b : Int} {v : Int → Int} : ∀ {A : List Int}, b ∈ A → (A.map v).sum = v b + ((A.erase b).map v).sum
  | a :: t, h => by
    by_cases e : a = b
    · subst e
      rw [List.erase_cons_head, List.map_cons, List.sum_cons]
    · have hb : b ∈ t := by
        rcases List.mem_cons.mp h with q | q
        · exact absurd q.symm e
        · exact q
      rw [List.erase_cons_tail (by simp [e]), List.map_cons, List.sum_cons, List.map_cons, List.sum_cons, sum_erase hb]
      omega
theorem sum_np {v : Int → Int} (hv : ∀ c, v c ≤ 0) : ∀ A : List Int, (A.map v).sum ≤ 0
  | [] => Int.le_refl 0
  | a :: t => by
    rw [List.map_cons, List.sum_cons]
    have := hv a
    have := sum_np hv t
    omega
theorem sum_sub {v : Int → Int} (hv : ∀ c, v c ≤ 0) : ∀ (B A : List Int), B.Nodup → A.Nodup → (∀ c ∈ B, v c ≠ 0 → c ∈ A) → (A.map v).sum ≤ (B.map v).sum
  | [], A, _, _, _ => sum_np hv A
  | b :: t, A, hB, hA, h => by
    have hB' := List.nodup_cons.mp hB
    rw [List.map_cons, List.sum_cons]
    by_cases e : v b = 0
    · have := sum_sub hv t A hB'.2 hA fun c hc => h c (List.mem_cons_of_mem _ hc)
      omega
    · have hb := h b (by simp) e
      rw [sum_erase hb]
      have := sum_sub hv t (A.erase b) hB'.2 (hA.erase b) fun c hc hne => (List.mem_erase_of_ne (fun (z : c = b) => hB'.1 (z ▸ hc))).mpr (h c (List.mem_cons_of_mem _ hc) hne)
      omega
theorem sum_le2 {α : Type} {f g : α → Int} : ∀ {xs : List α}, (∀ x ∈ xs, f x ≤ g x) → (xs.map f).sum ≤ (xs.map g).sum
  | [], _ => Int.le_refl _
  | x :: t, h => by
    rw [List.map_cons, List.map_cons, List.sum_cons, List.sum_cons]
    have := h x (by simp)
    have := sum_le2 (f := f) (g := g) fun y hy => h y (List.mem_cons_of_mem x hy)
    omega
theorem sum_add2 {α : Type} {f g : α → Int} : ∀ xs : List α, (xs.map fun x => f x + g x).sum = (xs.map f).sum + (xs.map g).sum
  | [] => rfl
  | x :: t => by
    rw [List.map_cons, List.map_cons, List.map_cons, List.sum_cons, List.sum_cons, List.sum_cons, sum_add2 t]
    omega
theorem en_fst {α : Type} (xs : List α) : (enI xs).map Prod.fst = rngI xs.length := by
  apply List.ext_getElem?
  intro i
  rw [List.getElem?_map, enI_get]
  by_cases h : i < xs.length
  · have := rng_at (n := xs.length) (i := (i : Int)) (by omega) (by omega)
    simp only [Int.toNat_natCast] at this
    rw [this, List.getElem?_eq_getElem h]
    rfl
  · rw [List.getElem?_eq_none (by omega), List.getElem?_eq_none (by rw [rngI_len]; omega)]
    rfl
theorem en_snd {α : Type} (xs : List α) : (enI xs).map Prod.snd = xs := by
  apply List.ext_getElem?
  intro i
  rw [List.getElem?_map, enI_get]
  cases xs[i]? <;> rfl
section
variable {cs : List (List Int)} {n : Nat} {s : Ms}
theorem sumC_split (cols : List Int) : ((enI cols).map fun p => s.u p.1 + s.v p.2).sum = ((rngI cols.length).map s.u).sum + (cols.map s.v).sum := by
  rw [sum_add2 (f := fun p : Int × Int => s.u p.1) (g := fun p : Int × Int => s.v p.2)]
  have e1 : (enI cols).map (fun p => s.u p.1) = (rngI cols.length).map s.u := by rw [← en_fst, List.map_map]; rfl
  have e2 : (enI cols).map (fun p => s.v p.2) = cols.map s.v := by
    have e := List.map_map (g := s.v) (f := Prod.snd) (l := enI cols)
    rw [en_snd] at e
    exact e.symm
  rw [e1, e2]
/-- of any columns, each its own -/
theorem du_le (d : Du (CC cs) cs.length n cs.length s) {cols : List Int} (h : Asg n cs.length cols) : ((rngI cs.length).map s.u).sum + (cols.map s.v).sum ≤ sumC cs cols := by
  rw [← h.len, ← sumC_split]
  unfold sumC
  refine sum_le2 fun p hp => ?_
  obtain ⟨h1, h2⟩ := enI_mem hp
  have h3 := atI_some h1 h2
  have hm : p.2 ∈ cols := by
    unfold atI ixN at h2
    rw [if_pos h1, if_pos h3] at h2
    exact List.mem_of_getElem? h2
  have h4 := h.rg _ hm
  have := h.len
  exact d.fe _ _ h1 (by omega) h4.1 h4.2
theorem asg_col (d : Du (CC cs) cs.length n cs.length s) : Asg n cs.length ((rngI cs.length).map (colM s)) := by
  refine ⟨by rw [List.length_map, rngI_len], ?_, fun c hc => ?_⟩
  · refine List.pairwise_map.mpr (List.Pairwise.imp_of_mem (fun {a b} ha hb hab e => hab ?_) (rngI_nd _))
    have h1 := rngI_mem.mp ha
    have h2 := rngI_mem.mp hb
    have e1 := colM_ok (d.al a h1.1 h1.2)
    have e2 := colM_ok (d.al b h2.1 h2.2)
    rw [e, e2] at e1
    exact (Option.some.inj e1).symm
  · obtain ⟨r, hr, rfl⟩ := List.mem_map.mp hc
    have h1 := rngI_mem.mp hr
    exact (d.ow _ _ (colM_ok (d.al r h1.1 h1.2))).1
theorem col_sum (d : Du (CC cs) cs.length n cs.length s) : sumC cs ((rngI cs.length).map (colM s)) = ((rngI cs.length).map s.u).sum + (((rngI cs.length).map (colM s)).map s.v).sum := by
  have hl : ((rngI cs.length).map (colM s)).length = cs.length := by rw [List.length_map, rngI_len]
  have e0 := sumC_split (s := s) ((rngI cs.length).map (colM s))
  rw [hl] at e0
  rw [← e0]
  unfold sumC
  congr 1
  apply List.map_congr_left
  intro p hp
  obtain ⟨h1, h2⟩ := enI_mem hp
  have h3 := atI_some h1 h2
  rw [hl] at h3
  rw [fn_at h1 h3] at h2
  have e := colM_ok (d.al p.1 h1 h3)
  rw [Option.some.inj h2] at e
  exact ((d.ow _ _ e).2.2).symm
theorem col_least (d : Du (CC cs) cs.length n cs.length s) {cols : List Int} (h : Asg n cs.length cols) : sumC cs ((rngI cs.length).map (colM s)) ≤ sumC cs cols := by
  have h1 := du_le d h
  rw [col_sum d]
  have h2 := sum_sub d.ng cols ((rngI cs.length).map (colM s)) h.nd (asg_col d).nd fun c hc hne => by
    cases e : s.ow c with
    | none => exact absurd (d.vz c e) hne
    | some r =>
      have h3 := (d.ow c r e).2.1
      have e2 := colM_ok (d.al r h3.1 h3.2)
      rw [d.inj c _ r e e2]
      exact List.mem_map.mpr ⟨r, rngI_mem.mpr h3, rfl⟩
  omega
end

end QW

namespace QW
open PySem PySem.Spec PyProof.Rows L2 QL
/-! ### the law's own trying -/
theorem x_iDi {f : Ef} {ρ : Rho} {S S1 : Sto} {c : Nat} {kv : List (Int × Int)} {Q : List PyData → Sto → Prop} (h : f ρ S = some (.c c, S1)) (hc : S1[c]? = some (fI (cmV kv))) (q : Q (kv.map QL.vx) S1) : wp (iDi f ρ S) Q := by
  have e : mapO pairD (kvI (cmV kv)) = some (kv.map QL.vx) := by
    clear hc q
    induction kv with
    | nil => rfl
    | cons p t ih =>
      show ((pairD ((Sum.inl p.1 : L2.Key), Val.d (.int p.2))).bind fun b => (mapO pairD (kvI (cmV t))).map (b :: ·)) = _
      rw [ih]
      rfl
  unfold iDi
  rw [h]
  simp only [hc, e]
  exact wp_some.mpr q
theorem cput_V (kv : List (Int × Int)) (x v : Int) : putI (cmV kv) x (.d (.int v)) = cmV (cput kv x v) := by
  unfold putI cput
  rw [cm_keys]
  split
  · unfold cmV
    rw [List.map_map, List.map_map]
    apply List.map_congr_left
    intro p _
    show (if p.1 = x then (p.1, Val.d (.int v)) else (p.1, Val.d (.int p.2))) = _
    by_cases e : p.1 = x
    · rw [if_pos e]
      show _ = ((if p.1 = x then (p.1, v) else p).1, Val.d (.int (if p.1 = x then (p.1, v) else p).2))
      rw [if_pos e]
    · rw [if_neg e]
      show _ = ((if p.1 = x then (p.1, v) else p).1, Val.d (.int (if p.1 = x then (p.1, v) else p).2))
      rw [if_neg e]
  · unfold cmV
    rw [List.map_append]
    rfl
theorem dgt_cm {kv : List (Int × Int)} {c : Nat} {S : Sto} {ρ : Rho} {k d : Int} {fo fk fd : Ef} (hc : S[c]? = some (cI (cmV kv))) (ho : fo ρ S = some (.c c, S)) (hk : fk ρ S = some (.d (.int k), S)) (hd : fd ρ S = some (.d (.int d), S)) : eDgt fo fk fd ρ S = some (.d (.int (cget kv k d)), S) := by
  have hi : isDc S (.c c) = true := by
    unfold isDc
    simp only [hc]
  unfold eDgt bnd
  rw [ho]
  simp only [hi, if_true, hk, hd]
  show (match dLk S (.c c) (.d (.int k)) with
    | some (some y) => some (y, S)
    | some none => some (Val.d (.int d), S)
    | none => none) = _
  rw [dl_cI hc, lk_cm]
  unfold cget
  cases cmF kv k <;> rfl
def mkL : List Int := (List.range 13).map fun i => ((2 ^ i : Nat) : Int)
theorem mkL_at {k : Int} (h0 : 0 ≤ k) (h1 : k < 13) : atI mkL k = some ((2 : Int) ^ k.toNat) := by
  unfold atI ixN mkL
  rw [if_pos h0, if_pos (by simp; omega)]
  show ((List.range 13).map _)[k.toNat]? = _
  rw [List.getElem?_map, List.getElem?_range (by omega)]
  simp
theorem mkN_lt {n : Nat} {cols : List Int} (hn : cols.Nodup) (hr : ∀ c ∈ cols, 0 ≤ c ∧ c < (n : Int)) : mkN cols < 2 ^ n := by
  apply Nat.lt_pow_two_of_testBit
  intro i hi
  rw [Nat.testBit_eq_decide_div_mod_eq, mkN_bit hn (fun c hc => (hr c hc).1) i, if_neg (fun z => by have := (hr _ z).2; omega)]
  rfl
theorem keys_le {n i : Nat} {kv : List (Int × Int)} (hn : n ≤ 12) (nd : (kv.map Prod.fst).Nodup) (h : ∀ p ∈ kv, ∃ cols, Asg n i cols ∧ p.1 = (mkN cols : Int)) : kv.length ≤ 4096 := by
  have := List.Nodup.length_le_of_subset nd (l₂ := rngI 4096) fun x hx => by
    obtain ⟨p, hp, rfl⟩ := List.mem_map.mp hx
    obtain ⟨cols, hA, e⟩ := h p hp
    have h1 := mkN_lt hA.nd hA.rg
    have h2 : 2 ^ n ≤ 2 ^ 12 := Nat.pow_le_pow_right (by decide) hn
    rw [e]
    exact rngI_mem.mpr ⟨by omega, by omega⟩
  rwa [List.length_map, rngI_len] at this
theorem Dp.len {cs : List (List Int)} {n i : Nat} {kv : List (Int × Int)} (h : Dp cs n i kv) (hn : n ≤ 12) : kv.length ≤ 4096 := keys_le hn h.nd fun p hp => by obtain ⟨c, h1, h2, _⟩ := h.snd p hp; exact ⟨c, h1, h2⟩
theorem Dq.len {cs : List (List Int)} {n i : Nat} {row : List Int} {done : Int → Int → Int → Prop} {kv : List (Int × Int)} (h : Dq cs n i row done kv) (hn : n ≤ 12) : kv.length ≤ 4096 := keys_le hn h.nd fun p hp => by obtain ⟨c, h1, h2, _⟩ := h.snd p hp; exact ⟨c, h1, h2⟩
theorem Dq.weak {cs : List (List Int)} {n i : Nat} {row : List Int} {done done' : Int → Int → Int → Prop} {kv : List (Int × Int)} (h : Dq cs n i row done kv) (hd : ∀ u t k, done' u t k → done u t k) : Dq cs n i row done' kv := ⟨h.nd, h.snd, fun cols t k q => h.cmp cols t k (hd _ _ _ q)⟩
theorem fold_min : ∀ (xs : List Int) (x : Int), xs.foldl min x ≤ x ∧ (∀ y ∈ xs, xs.foldl min x ≤ y) ∧ (xs.foldl min x = x ∨ xs.foldl min x ∈ xs)
  | [], x => ⟨Int.le_refl _, by simp, .inl rfl⟩
  | y :: t, x => by
    obtain ⟨h1, h2, h3⟩ := fold_min t (min x y)
    rw [List.foldl_cons]
    refine ⟨by omega, fun z hz => ?_, ?_⟩
    · rcases List.mem_cons.mp hz with rfl | hz
      · omega
      · exact h2 z hz
    · rcases h3 with h3 | h3
      · rw [h3]
        by_cases e : x ≤ y
        · left; omega
        · right; rw [show min x y = y by omega]; simp
      · exact .inr (List.mem_cons_of_mem _ h3)
theorem minI_ok (xs : List Int) : MinOk (xs.map .int) := by
  refine ⟨fun d hd d' hd' => ?_, fun d hd => ?_, fun d hd => ?_⟩
  · obtain ⟨x, _, rfl⟩ := List.mem_map.mp hd
    obtain ⟨y, _, rfl⟩ := List.mem_map.mp hd'
    rfl
  · obtain ⟨x, _, rfl⟩ := List.mem_map.mp hd
    exact fun z => nomatch z
  · obtain ⟨x, _, rfl⟩ := List.mem_map.mp hd
    exact Nat.zero_le _
theorem minI_least {xs : List Int} {S : Sto} (h : xs ≠ []) : ∃ z ∈ xs, gMinL [.d (.list (xs.map .int))] S = some (.d (.int z), S) ∧ ∀ y ∈ xs, z ≤ y := by
  cases xs with
  | nil => exact absurd rfl h
  | cons x t =>
    have e := minL_eq (S := S) (a := .d (.list ((x :: t).map .int))) (x := .int x) (ds := t.map .int) rfl (unD_d _) (minI_ok (x :: t))
    rw [PySem.W.minD_ints] at e
    obtain ⟨h1, h2, h3⟩ := fold_min t x
    refine ⟨_, ?_, e, fun y hy => ?_⟩
    · rcases h3 with h3 | h3
      · rw [h3]; simp
      · exact List.mem_cons_of_mem _ h3
    · rcases List.mem_cons.mp hy with rfl | hy
      · exact h1
      · exact h2 y hy
theorem least_eq {S : Sto} {cs : List (List Int)} {n : Nat} {s : Ms} (h : CsOk cs n) (hn : n ≤ 12) (hm : cs.length ≤ 12) (d : Du (CC cs) cs.length n cs.length s) (hcb : ∀ r ∈ cs, ∀ x ∈ r, x ≤ 1000000) : p_law_least_sum [.d (vC cs)] S = some (.d (.int (sumC cs ((rngI cs.length).map (colM s)))), S) := by
  unfold p_law_least_sum
  refine w_fnE ?_
  show wpS (f_law_least_sum [some (.d (vC cs)), none, none, none, none, none, none, none, none, none] _) _
  unfold f_law_least_sum
  rw [w_seq]
  (try simp only [st0, st1, st2, st3, st4, st5, st6, w_forC, w_forN, x_jZm, x_par3, kPar3_eq, x_iZx, zx_L, zx_T, zx_LT, zx_TL, w_gSubD, q_addJ, x_iDk, w_augS, w_aug, x_slT, q_dk, q_dt, w_dp, w_md, eVar, isT, tyN, isNo, gsN, wipeR, kSq, viewL, viewS, reduceIte, reduceCtorEq, Nat.reduceAdd, String.reduceBEq, Int.reducePow, Int.reduceLT, Int.reduceLE, Nat.reduceLT, Nat.reduceLeDiff, Int.reduceToNat, List.getElem?_cons_zero, List.getElem?_cons_succ, List.set_cons_zero, List.set_cons_succ, List.length_cons, List.length_nil, if_true, Option.map_some, if_false, forall_const, List.length_map, Option.some.injEq, exists_eq_left', exists_eq_left, List.any_cons, List.any_nil, beq_self_eq_true, Option.isSome_some, exists_eq, exists_eq', x_disp, w_prC, w_prN])
  rw [dsp_eq rfl (by decide), wp_some]
  have hS0 : S ++ [Cell.lst [Val.d (PyData.int 1)]] ++ [Cell.dk (mrgQ [] [((Sum.inl 0 : L2.Key), Val.d (PyData.int 0))])] = S ++ [tc PyData.int ((List.range 1).map fun i => ((2 ^ i : Nat) : Int)), cI (cmV [(0, 0)])] := by
    rw [List.append_assoc]
    rfl
  rw [hS0]
  (try simp only [st0, st1, st2, st3, st4, st5, st6, w_forC, w_forN, x_jZm, x_par3, kPar3_eq, x_iZx, zx_L, zx_T, zx_LT, zx_TL, w_gSubD, q_addJ, x_iDk, w_augS, w_aug, x_slT, q_dk, q_dt, w_dp, w_md, eVar, isT, tyN, isNo, gsN, wipeR, kSq, viewL, viewS, reduceIte, reduceCtorEq, Nat.reduceAdd, String.reduceBEq, Int.reducePow, Int.reduceLT, Int.reduceLE, Nat.reduceLT, Nat.reduceLeDiff, Int.reduceToNat, List.getElem?_cons_zero, List.getElem?_cons_succ, List.set_cons_zero, List.set_cons_succ, List.length_cons, List.length_nil, if_true, Option.map_some, if_false, forall_const, List.length_map, Option.some.injEq, exists_eq_left', exists_eq_left, List.any_cons, List.any_nil, beq_self_eq_true, Option.isSome_some, exists_eq, exists_eq'])
  rw [w_seq]
  (try simp only [st0, st1, st2, st3, st4, st5, st6, w_forC, w_forN, x_jZm, x_par3, kPar3_eq, x_iZx, zx_L, zx_T, zx_LT, zx_TL, w_gSubD, q_addJ, x_iDk, w_augS, w_aug, x_slT, q_dk, q_dt, w_dp, w_md, eVar, isT, tyN, isNo, gsN, wipeR, kSq, viewL, viewS, reduceIte, reduceCtorEq, Nat.reduceAdd, String.reduceBEq, Int.reducePow, Int.reduceLT, Int.reduceLE, Nat.reduceLT, Nat.reduceLeDiff, Int.reduceToNat, List.getElem?_cons_zero, List.getElem?_cons_succ, List.set_cons_zero, List.set_cons_succ, List.length_cons, List.length_nil, if_true, Option.map_some, if_false, forall_const, List.length_map, Option.some.injEq, exists_eq_left', exists_eq_left, List.any_cons, List.any_nil, beq_self_eq_true, Option.isSome_some, exists_eq, exists_eq'])
  obtain ⟨c1, hc1⟩ : ∃ c1, c1 = S.length := ⟨_, rfl⟩
  have hc2 : (S ++ [Cell.lst [Val.d (PyData.int 1)]]).length = c1 + 1 := by rw [List.length_append, hc1]; rfl
  rw [hc2, ← hc1]
  have mks : ∀ (i : Nat), (S ++ [tc PyData.int ((List.range (i + 1)).map fun i => ((2 ^ i : Nat) : Int)), cI (cmV [(0, 0)])])[c1]? = some (tc PyData.int ((List.range (i + 1)).map fun i => ((2 ^ i : Nat) : Int))) := fun i => by rw [hc1]; exact ga0
  have sks : ∀ (x : Cell), (S ++ [x, cI (cmV [(0, 0)])])[c1 + 1]? = some (cI (cmV [(0, 0)])) := fun x => by rw [hc1]; exact ga (i := 1)
  obtain ⟨I, hI⟩ : ∃ X : Nat → Rho → Sto → Prop, X = fun (i : Nat) (ρ : Rho) (S' : Sto) => ∃ u : Option Val, ρ = [some (.d (vC cs)), some (.c c1), some (.c (c1 + 1)), u, none, none, none, none, none, none] ∧ S' = S ++ [tc PyData.int ((List.range (i + 1)).map fun i => ((2 ^ i : Nat) : Int)), cI (cmV [(0, 0)])] := ⟨_, rfl⟩
  refine w_loop I (by rw [hI]; exact ⟨_, rfl, rfl⟩) ?_ ?_
  · intro i dd ρ S1 hd2 hh
    rw [hI] at hh
    obtain ⟨u, rfl, rfl⟩ := hh
    obtain ⟨hi, rfl⟩ := rng_get hd2
    have hi : i < 12 := hi
    have hlast : gIx (.c c1) (.d (.int (-1))) (S ++ [tc PyData.int ((List.range (i + 1)).map fun i => ((2 ^ i : Nat) : Int)), cI (cmV [(0, 0)])]) = some (.d (.int ((2 ^ i : Nat) : Int)), S ++ [tc PyData.int ((List.range (i + 1)).map fun i => ((2 ^ i : Nat) : Int)), cI (cmV [(0, 0)])]) := by
      rw [tc_ix (mks i), List.range_succ, List.map_append]
      exact congrArg _ (QL.atI_last) |>.trans rfl
    have happ := tc_app (y := 2 * ((2 ^ i : Nat) : Int)) (mks i) (by simp; omega)
    (try simp only [st0, st1, st2, st3, st4, st5, st6, w_forC, w_forN, x_jZm, x_par3, kPar3_eq, x_iZx, zx_L, zx_T, zx_LT, zx_TL, w_gSubD, q_addJ, x_iDk, w_augS, w_aug, x_slT, q_dk, q_dt, w_dp, w_md, eVar, isT, tyN, isNo, gsN, wipeR, kSq, viewL, viewS, reduceIte, reduceCtorEq, Nat.reduceAdd, String.reduceBEq, Int.reducePow, Int.reduceLT, Int.reduceLE, Nat.reduceLT, Nat.reduceLeDiff, Int.reduceToNat, List.getElem?_cons_zero, List.getElem?_cons_succ, List.set_cons_zero, List.set_cons_succ, List.length_cons, List.length_nil, if_true, Option.map_some, if_false, forall_const, List.length_map, Option.some.injEq, exists_eq_left', exists_eq_left, List.any_cons, List.any_nil, beq_self_eq_true, Option.isSome_some, exists_eq, exists_eq', mks, hlast, happ])
    rw [hI]
    refine ⟨_, rfl, ?_⟩
    rw [hc1, sa0]
    congr 2
    rw [List.range_succ (n := i + 1), List.map_append]
    congr 2
    simp only [List.map_cons, List.map_nil]
    rw [Nat.pow_succ]
    push_cast
    rw [Int.mul_comm]
  · intro ρ S1 hh
    rw [hI, rng_len] at hh
    obtain ⟨u, rfl, rfl⟩ := hh
    (try simp only [st0, st1, st2, st3, st4, st5, st6, w_forC, w_forN, x_jZm, x_par3, kPar3_eq, x_iZx, zx_L, zx_T, zx_LT, zx_TL, w_gSubD, q_addJ, x_iDk, w_augS, w_aug, x_slT, q_dk, q_dt, w_dp, w_md, eVar, isT, tyN, isNo, gsN, wipeR, kSq, viewL, viewS, reduceIte, reduceCtorEq, Nat.reduceAdd, String.reduceBEq, Int.reducePow, Int.reduceLT, Int.reduceLE, Nat.reduceLT, Nat.reduceLeDiff, Int.reduceToNat, List.getElem?_cons_zero, List.getElem?_cons_succ, List.set_cons_zero, List.set_cons_succ, List.length_cons, List.length_nil, if_true, Option.map_some, if_false, forall_const, List.length_map, Option.some.injEq, exists_eq_left', exists_eq_left, List.any_cons, List.any_nil, beq_self_eq_true, Option.isSome_some, exists_eq, exists_eq', tc_frz (mks 12)])
    have hmk : ((List.range 13).map fun i => ((2 ^ i : Nat) : Int)) = mkL := rfl
    rw [hmk]
    have hS2 : Ex S ((S ++ [tc PyData.int mkL, cI (cmV [(0, 0)])]).set c1 (.frz (.list (mkL.map .int)))) := by
      rw [hc1, sa0]
      exact ⟨by simp, fun j hj => List.getElem?_append_left hj⟩
    have k2 : ((S ++ [tc PyData.int mkL, cI (cmV [(0, 0)])]).set c1 (.frz (.list (mkL.map .int))))[c1 + 1]? = some (cI (cmV [(0, 0)])) := by
      rw [List.getElem?_set_ne (by omega)]
      exact sks _
    generalize (S ++ [tc PyData.int mkL, cI (cmV [(0, 0)])]).set c1 (.frz (.list (mkL.map .int))) = S2 at hS2 k2
    have hge : S.length ≤ c1 + 1 := by omega
    generalize c1 + 1 = j0 at k2 hge
    rw [w_seq, vC_eq]
    (try simp only [st0, st1, st2, st3, st4, st5, st6, w_forC, w_forN, x_jZm, x_par3, kPar3_eq, x_iZx, zx_L, zx_T, zx_LT, zx_TL, w_gSubD, q_addJ, x_iDk, w_augS, w_aug, x_slT, q_dk, q_dt, w_dp, w_md, eVar, isT, tyN, isNo, gsN, wipeR, kSq, viewL, viewS, reduceIte, reduceCtorEq, Nat.reduceAdd, String.reduceBEq, Int.reducePow, Int.reduceLT, Int.reduceLE, Nat.reduceLT, Nat.reduceLeDiff, Int.reduceToNat, List.getElem?_cons_zero, List.getElem?_cons_succ, List.set_cons_zero, List.set_cons_succ, List.length_cons, List.length_nil, if_true, Option.map_some, if_false, forall_const, List.length_map, Option.some.injEq, exists_eq_left', exists_eq_left, List.any_cons, List.any_nil, beq_self_eq_true, Option.isSome_some, exists_eq, exists_eq'])
    obtain ⟨J, hJ⟩ : ∃ X : List (List Int) → Rho → Sto → Prop, X = fun PRE ρ S' => ∃ (j : Nat) (kv : List (Int × Int)) (u3 u4 u5 u6 u7 u8 u9 : Option Val), ρ = [some (.d (.list (cs.map vR))), some (.d (.list (mkL.map .int))), some (.c j), u3, u4, u5, u6, u7, u8, u9] ∧ Ex S S' ∧ S.length ≤ j ∧ S'[j]? = some (cI (cmV kv)) ∧ Dp cs n PRE.length kv := ⟨_, rfl⟩
    refine w_loopX (v := vR) J (by rw [hJ]; exact ⟨j0, _, _, _, _, _, _, _, _, rfl, hS2, hge, k2, Dp.start cs n⟩) ?_ ?_
    · intro PRE row post ρ S3 he hh
      rw [hJ] at hh
      obtain ⟨j, kv, u3, u4, u5, u6, u7, u8, u9, rfl, e3, hj, kj, hDp⟩ := hh
      have hi : cs[PRE.length]? = some row := by rw [he]; simp
      have hrm : row ∈ cs := by rw [he]; simp
      have hrl := h.rw row hrm
      obtain ⟨i, hlen⟩ : ∃ i, i = PRE.length := ⟨_, rfl⟩
      rw [← hlen] at hDp hi
      (try simp only [st0, st1, st2, st3, st4, st5, st6, w_forC, w_forN, x_jZm, x_par3, kPar3_eq, x_iZx, zx_L, zx_T, zx_LT, zx_TL, w_gSubD, q_addJ, x_iDk, w_augS, w_aug, x_slT, q_dk, q_dt, w_dp, w_md, eVar, isT, tyN, isNo, gsN, wipeR, kSq, viewL, viewS, reduceIte, reduceCtorEq, Nat.reduceAdd, String.reduceBEq, Int.reducePow, Int.reduceLT, Int.reduceLE, Nat.reduceLT, Nat.reduceLeDiff, Int.reduceToNat, List.getElem?_cons_zero, List.getElem?_cons_succ, List.set_cons_zero, List.set_cons_succ, List.length_cons, List.length_nil, if_true, Option.map_some, if_false, forall_const, List.length_map, Option.some.injEq, exists_eq_left', exists_eq_left, List.any_cons, List.any_nil, beq_self_eq_true, Option.isSome_some, exists_eq, exists_eq'])
      rw [w_seq]
      (try simp only [st0, st1, st2, st3, st4, st5, st6, w_forC, w_forN, x_jZm, x_par3, kPar3_eq, x_iZx, zx_L, zx_T, zx_LT, zx_TL, w_gSubD, q_addJ, x_iDk, w_augS, w_aug, x_slT, q_dk, q_dt, w_dp, w_md, eVar, isT, tyN, isNo, gsN, wipeR, kSq, viewL, viewS, reduceIte, reduceCtorEq, Nat.reduceAdd, String.reduceBEq, Int.reducePow, Int.reduceLT, Int.reduceLE, Nat.reduceLT, Nat.reduceLeDiff, Int.reduceToNat, List.getElem?_cons_zero, List.getElem?_cons_succ, List.set_cons_zero, List.set_cons_succ, List.length_cons, List.length_nil, if_true, Option.map_some, if_false, forall_const, List.length_map, Option.some.injEq, exists_eq_left', exists_eq_left, List.any_cons, List.any_nil, beq_self_eq_true, Option.isSome_some, exists_eq, exists_eq'])
      rw [w_lock]
      have hd3 : S.length ≤ S3.length := e3.len
      have kj2 : (S3 ++ [Cell.dk []])[j]? = some (cI (cmV kv)) := by rw [List.getElem?_append_left (List.getElem?_eq_some_iff.mp kj).1]; exact kj
      have hjn : j ≠ S3.length := fun z => by
        have := (List.getElem?_eq_some_iff.mp kj).1
        omega
      show kLock _ _ _ _ (some (some (.c j)))
      rw [kLock_eq]
      refine ⟨_, lock_k kj2, ?_⟩
      have e4 : Ex S ((S3 ++ [Cell.dk []]).set j (fI (cmV kv))) := (e3.trans (Ex.new S3 _)).setN hj _
      have kj4 : ((S3 ++ [Cell.dk []]).set j (fI (cmV kv)))[j]? = some (fI (cmV kv)) := get_set kj2
      have kd4 : ((S3 ++ [Cell.dk []]).set j (fI (cmV kv)))[S3.length]? = some (cI (cmV [])) := by
        rw [List.getElem?_set_ne hjn]
        exact get_new _ _
      generalize (S3 ++ [Cell.dk []]).set j (fI (cmV kv)) = S4 at e4 kj4 kd4
      generalize S3.length = d at hd3 hjn kd4
      rw [w_seq]
      (try simp only [st0, st1, st2, st3, st4, st5, st6, w_forC, w_forN, x_jZm, x_par3, kPar3_eq, x_iZx, zx_L, zx_T, zx_LT, zx_TL, w_gSubD, q_addJ, x_iDk, w_augS, w_aug, x_slT, q_dk, q_dt, w_dp, w_md, eVar, isT, tyN, isNo, gsN, wipeR, kSq, viewL, viewS, reduceIte, reduceCtorEq, Nat.reduceAdd, String.reduceBEq, Int.reducePow, Int.reduceLT, Int.reduceLE, Nat.reduceLT, Nat.reduceLeDiff, Int.reduceToNat, List.getElem?_cons_zero, List.getElem?_cons_succ, List.set_cons_zero, List.set_cons_succ, List.length_cons, List.length_nil, if_true, Option.map_some, if_false, forall_const, List.length_map, Option.some.injEq, exists_eq_left', exists_eq_left, List.any_cons, List.any_nil, beq_self_eq_true, Option.isSome_some, exists_eq, exists_eq'])
      refine x_iDi rfl kj4 ?_
      obtain ⟨K1, hK1⟩ : ∃ X : List (Int × Int) → Rho → Sto → Prop, X = fun P2 ρ S' => ∃ (kv2 : List (Int × Int)) (u3 u6 u7 u8 u9 : Option Val), ρ = [some (.d (.list (cs.map vR))), some (.d (.list (mkL.map .int))), some (.c j), u3, some (.d (vR row)), some (.c d), u6, u7, u8, u9] ∧ Ex S S' ∧ S'[d]? = some (cI (cmV kv2)) ∧ Dq cs n i row (fun u t k => (u, t) ∈ P2 ∧ 0 ≤ k ∧ k < (n : Int)) kv2 := ⟨_, rfl⟩
      refine w_loopX (v := QL.vx) K1 (by rw [hK1]; exact ⟨[], _, _, _, _, _, rfl, e4, kd4, (Dq.start cs n i row).weak fun u t k z => absurd z.1 (by simp)⟩) ?_ ?_
      · rintro P2 ⟨used, total⟩ po2 ρ S5 he2 hh
        rw [hK1] at hh
        obtain ⟨kv2, u3, u6, u7, u8, u9, rfl, e5, kd5, hDq⟩ := hh
        have hpm : (used, total) ∈ kv := by rw [he2]; simp
        obtain ⟨cols0, hA0, hu0, ht0⟩ := hDp.snd _ hpm
        (try simp only [st0, st1, st2, st3, st4, st5, st6, w_forC, w_forN, x_jZm, x_par3, kPar3_eq, x_iZx, zx_L, zx_T, zx_LT, zx_TL, w_gSubD, q_addJ, x_iDk, w_augS, w_aug, x_slT, q_dk, q_dt, w_dp, w_md, eVar, isT, tyN, isNo, gsN, wipeR, kSq, viewL, viewS, reduceIte, reduceCtorEq, Nat.reduceAdd, String.reduceBEq, Int.reducePow, Int.reduceLT, Int.reduceLE, Nat.reduceLT, Nat.reduceLeDiff, Int.reduceToNat, List.getElem?_cons_zero, List.getElem?_cons_succ, List.set_cons_zero, List.set_cons_succ, List.length_cons, List.length_nil, if_true, Option.map_some, if_false, forall_const, List.length_map, Option.some.injEq, exists_eq_left', exists_eq_left, List.any_cons, List.any_nil, beq_self_eq_true, Option.isSome_some, exists_eq, exists_eq', g2x])
        rw [show vR row = PyData.list (row.map PyData.int) from rfl]
        (try simp only [st0, st1, st2, st3, st4, st5, st6, w_forC, w_forN, x_jZm, x_par3, kPar3_eq, x_iZx, zx_L, zx_T, zx_LT, zx_TL, w_gSubD, q_addJ, x_iDk, w_augS, w_aug, x_slT, q_dk, q_dt, w_dp, w_md, eVar, isT, tyN, isNo, gsN, wipeR, kSq, viewL, viewS, reduceIte, reduceCtorEq, Nat.reduceAdd, String.reduceBEq, Int.reducePow, Int.reduceLT, Int.reduceLE, Nat.reduceLT, Nat.reduceLeDiff, Int.reduceToNat, List.getElem?_cons_zero, List.getElem?_cons_succ, List.set_cons_zero, List.set_cons_succ, List.length_cons, List.length_nil, if_true, Option.map_some, if_false, forall_const, List.length_map, Option.some.injEq, exists_eq_left', exists_eq_left, List.any_cons, List.any_nil, beq_self_eq_true, Option.isSome_some, exists_eq, exists_eq'])
        rw [enumD_en PyData.int row]
        obtain ⟨K2, hK2⟩ : ∃ X : List (Int × Int) → Rho → Sto → Prop, X = fun P3 ρ S' => ∃ (kv2 : List (Int × Int)) (u3 u8 u9 : Option Val), ρ = [some (.d (.list (cs.map vR))), some (.d (.list (mkL.map .int))), some (.c j), u3, some (.d (vR row)), some (.c d), some (.d (.int used)), some (.d (.int total)), u8, u9] ∧ Ex S S' ∧ S'[d]? = some (cI (cmV kv2)) ∧ Dq cs n i row (fun u t k => ((u, t) ∈ P2 ∧ 0 ≤ k ∧ k < (n : Int)) ∨ (u = used ∧ t = total ∧ ∃ x, (k, x) ∈ P3)) kv2 := ⟨_, rfl⟩
        refine w_loopX (v := vE PyData.int) K2 (by rw [hK2]; exact ⟨kv2, _, _, _, rfl, e5, kd5, hDq.weak fun u t k z => by rcases z with z | ⟨_, _, x, z⟩; exact z; cases z⟩) ?_ ?_
        · rintro P3 ⟨k, one⟩ po3 ρ S6 he3 hh
          rw [hK2] at hh
          obtain ⟨kv2, u3, u8, u9, rfl, e6, kd6, hDq2⟩ := hh
          have hkm : (k, one) ∈ enI row := by rw [he3]; simp
          obtain ⟨k0, hk⟩ := enI_mem hkm
          have k1 := atI_some k0 hk
          have hkn : k < (n : Int) := by omega
          have hmx : ∀ S, gIx (.d (.list (mkL.map .int))) (.d (.int k)) S = some (.d (.int ((2 : Int) ^ k.toNat)), S) := fun S => row_ix (mkL_at k0 (by omega))
          have hp2 : (0 : Int) < 2 ^ k.toNat := Int.pow_pos (by decide)
          have hp3 : (2 : Int) ^ k.toNat ≤ 4096 := by
            have h1 : 2 ^ k.toNat ≤ 2 ^ 12 := Nat.pow_le_pow_right (by decide) (by omega)
            have h2 : ((2 ^ k.toNat : Nat) : Int) ≤ ((2 ^ 12 : Nat) : Int) := by exact_mod_cast h1
            push_cast at h2
            exact h2
          (try simp only [st0, st1, st2, st3, st4, st5, st6, w_forC, w_forN, x_jZm, x_par3, kPar3_eq, x_iZx, zx_L, zx_T, zx_LT, zx_TL, w_gSubD, q_addJ, x_iDk, w_augS, w_aug, x_slT, q_dk, q_dt, w_dp, w_md, eVar, isT, tyN, isNo, gsN, wipeR, kSq, viewL, viewS, reduceIte, reduceCtorEq, Nat.reduceAdd, String.reduceBEq, Int.reducePow, Int.reduceLT, Int.reduceLE, Nat.reduceLT, Nat.reduceLeDiff, Int.reduceToNat, List.getElem?_cons_zero, List.getElem?_cons_succ, List.set_cons_zero, List.set_cons_succ, List.length_cons, List.length_nil, if_true, Option.map_some, if_false, forall_const, List.length_map, Option.some.injEq, exists_eq_left', exists_eq_left, List.any_cons, List.any_nil, beq_self_eq_true, Option.isSome_some, exists_eq, exists_eq', g2e])
          rw [w_if]
          (try simp only [st0, st1, st2, st3, st4, st5, st6, w_forC, w_forN, x_jZm, x_par3, kPar3_eq, x_iZx, zx_L, zx_T, zx_LT, zx_TL, w_gSubD, q_addJ, x_iDk, w_augS, w_aug, x_slT, q_dk, q_dt, w_dp, w_md, eVar, isT, tyN, isNo, gsN, wipeR, kSq, viewL, viewS, reduceIte, reduceCtorEq, Nat.reduceAdd, String.reduceBEq, Int.reducePow, Int.reduceLT, Int.reduceLE, Nat.reduceLT, Nat.reduceLeDiff, Int.reduceToNat, List.getElem?_cons_zero, List.getElem?_cons_succ, List.set_cons_zero, List.set_cons_succ, List.length_cons, List.length_nil, if_true, Option.map_some, if_false, forall_const, List.length_map, Option.some.injEq, exists_eq_left', exists_eq_left, List.any_cons, List.any_nil, beq_self_eq_true, Option.isSome_some, exists_eq, exists_eq', hmx])
          have wk3 : ∀ kv3, Dq cs n i row (fun u t j => ((u, t) ∈ P2 ∧ 0 ≤ j ∧ j < (n : Int)) ∨ (u = used ∧ t = total ∧ ∃ x, (j, x) ∈ P3) ∨ (u = used ∧ t = total ∧ j = k)) kv3 → Dq cs n i row (fun u t j => ((u, t) ∈ P2 ∧ 0 ≤ j ∧ j < (n : Int)) ∨ (u = used ∧ t = total ∧ ∃ x, (j, x) ∈ P3 ++ [(k, one)])) kv3 := fun kv3 q => q.weak fun u t j z => by
            rcases z with z | ⟨z1, z2, x, z3⟩
            · exact .inl z
            · rcases List.mem_append.mp z3 with z3 | z3
              · exact .inr (.inl ⟨z1, z2, x, z3⟩)
              · have e := List.mem_singleton.mp z3
                rw [Prod.mk.injEq] at e
                exact .inr (.inr ⟨z1, z2, e.1⟩)
          refine ⟨⟨hp2, by omega⟩, fun hbit => ?_, fun hbit => ?_⟩
          · rw [w_seq]
            (try simp only [st0, st1, st2, st3, st4, st5, st6, w_forC, w_forN, x_jZm, x_par3, kPar3_eq, x_iZx, zx_L, zx_T, zx_LT, zx_TL, w_gSubD, q_addJ, x_iDk, w_augS, w_aug, x_slT, q_dk, q_dt, w_dp, w_md, eVar, isT, tyN, isNo, gsN, wipeR, kSq, viewL, viewS, reduceIte, reduceCtorEq, Nat.reduceAdd, String.reduceBEq, Int.reducePow, Int.reduceLT, Int.reduceLE, Nat.reduceLT, Nat.reduceLeDiff, Int.reduceToNat, List.getElem?_cons_zero, List.getElem?_cons_succ, List.set_cons_zero, List.set_cons_succ, List.length_cons, List.length_nil, if_true, Option.map_some, if_false, forall_const, List.length_map, Option.some.injEq, exists_eq_left', exists_eq_left, List.any_cons, List.any_nil, beq_self_eq_true, Option.isSome_some, exists_eq, exists_eq', hmx, q_addI])
            have hdg : eDgt (eVar 5) (eVar 9) (eBin (gAdd Md.D) (eVar 7) (eVar 8)) [some (.d (.list (cs.map vR))), some (.d (.list (mkL.map .int))), some (.c j), some (.d (.int k)), some (.d (vR row)), some (.c d), some (.d (.int used)), some (.d (.int total)), some (.d (.int one)), some (.d (.int (used + 2 ^ k.toNat)))] S6 = some (.d (.int (cget kv2 (used + 2 ^ k.toNat) (total + one))), S6) := dgt_cm kd6 rfl rfl rfl
            have hmin : gMin2 [.d (.int (cget kv2 (used + 2 ^ k.toNat) (total + one))), .d (.int (total + one))] S6 = some (.d (.int (min (cget kv2 (used + 2 ^ k.toNat) (total + one)) (total + one))), S6) := by
              rw [q_min]
              congr 4
              split <;> omega
            have hcl : (cmV kv2).length < 16777216 := by
              have h9 := hDq2.len hn
              have e : (cmV kv2).length = kv2.length := by simp [cmV]
              omega
            have hput := dpt_I (x := used + 2 ^ k.toNat) (v := .d (.int (min (cget kv2 (used + 2 ^ k.toNat) (total + one)) (total + one)))) kd6 hcl
            rw [cput_V] at hput
            (try simp only [st0, st1, st2, st3, st4, st5, st6, w_forC, w_forN, x_jZm, x_par3, kPar3_eq, x_iZx, zx_L, zx_T, zx_LT, zx_TL, w_gSubD, q_addJ, x_iDk, w_augS, w_aug, x_slT, q_dk, q_dt, w_dp, w_md, eVar, isT, tyN, isNo, gsN, wipeR, kSq, viewL, viewS, reduceIte, reduceCtorEq, Nat.reduceAdd, String.reduceBEq, Int.reducePow, Int.reduceLT, Int.reduceLE, Nat.reduceLT, Nat.reduceLeDiff, Int.reduceToNat, List.getElem?_cons_zero, List.getElem?_cons_succ, List.set_cons_zero, List.set_cons_succ, List.length_cons, List.length_nil, if_true, Option.map_some, if_false, forall_const, List.length_map, Option.some.injEq, exists_eq_left', exists_eq_left, List.any_cons, List.any_nil, beq_self_eq_true, Option.isSome_some, exists_eq, exists_eq', hdg, q_addI, hmin, hput])
            rw [hK2]
            refine ⟨_, _, _, _, rfl, e6.setN hd3 _, get_set kd6, wk3 _ ?_⟩
            exact (hDq2.step hi ⟨k0, hkn⟩ hk hA0 hu0 ht0 hbit).weak fun u t j z => by
              rcases z with z | z | z
              · exact .inl (.inl z)
              · exact .inl (.inr z)
              · exact .inr z
          · rw [hK2]
            refine ⟨kv2, _, _, _, rfl, e6, kd6, wk3 _ ?_⟩
            exact (hDq2.skip (total := total) k0 hA0 hu0 hbit).weak fun u t j z => by
              rcases z with z | z | z
              · exact .inl (.inl z)
              · exact .inl (.inr z)
              · exact .inr z
        · intro ρ S6 hh
          rw [hK2] at hh
          obtain ⟨kv2, u3, u8, u9, rfl, e6, kd6, hDq2⟩ := hh
          (try simp only [st0, st1, st2, st3, st4, st5, st6, w_forC, w_forN, x_jZm, x_par3, kPar3_eq, x_iZx, zx_L, zx_T, zx_LT, zx_TL, w_gSubD, q_addJ, x_iDk, w_augS, w_aug, x_slT, q_dk, q_dt, w_dp, w_md, eVar, isT, tyN, isNo, gsN, wipeR, kSq, viewL, viewS, reduceIte, reduceCtorEq, Nat.reduceAdd, String.reduceBEq, Int.reducePow, Int.reduceLT, Int.reduceLE, Nat.reduceLT, Nat.reduceLeDiff, Int.reduceToNat, List.getElem?_cons_zero, List.getElem?_cons_succ, List.set_cons_zero, List.set_cons_succ, List.length_cons, List.length_nil, if_true, Option.map_some, if_false, forall_const, List.length_map, Option.some.injEq, exists_eq_left', exists_eq_left, List.any_cons, List.any_nil, beq_self_eq_true, Option.isSome_some, exists_eq, exists_eq'])
          rw [hK1]
          refine ⟨kv2, _, _, _, _, _, rfl, e6, kd6, hDq2.weak fun u t k z => ?_⟩
          obtain ⟨z1, z2, z3⟩ := z
          rcases List.mem_append.mp z1 with z1 | z1
          · exact .inl ⟨z1, z2, z3⟩
          · have e := List.mem_singleton.mp z1
            rw [Prod.mk.injEq] at e
            obtain ⟨x, hx⟩ : ∃ x, atI row k = some x := by
              unfold atI ixN
              rw [if_pos z2, if_pos (by omega)]
              exact ⟨_, List.getElem?_eq_getElem (by omega)⟩
            exact .inr ⟨e.1, e.2, x, enI_of z2 hx⟩
      · intro ρ S5 hh
        rw [hK1] at hh
        obtain ⟨kv2, u3, u6, u7, u8, u9, rfl, e5, kd5, hDq⟩ := hh
        (try simp only [st0, st1, st2, st3, st4, st5, st6, w_forC, w_forN, x_jZm, x_par3, kPar3_eq, x_iZx, zx_L, zx_T, zx_LT, zx_TL, w_gSubD, q_addJ, x_iDk, w_augS, w_aug, x_slT, q_dk, q_dt, w_dp, w_md, eVar, isT, tyN, isNo, gsN, wipeR, kSq, viewL, viewS, reduceIte, reduceCtorEq, Nat.reduceAdd, String.reduceBEq, Int.reducePow, Int.reduceLT, Int.reduceLE, Nat.reduceLT, Nat.reduceLeDiff, Int.reduceToNat, List.getElem?_cons_zero, List.getElem?_cons_succ, List.set_cons_zero, List.set_cons_succ, List.length_cons, List.length_nil, if_true, Option.map_some, if_false, forall_const, List.length_map, Option.some.injEq, exists_eq_left', exists_eq_left, List.any_cons, List.any_nil, beq_self_eq_true, Option.isSome_some, exists_eq, exists_eq'])
        rw [hJ]
        refine ⟨d, kv2, _, _, _, _, _, _, _, rfl, e5, hd3, kd5, ?_⟩
        rw [List.length_append, ← hlen]
        exact hDp.next hi hDq fun p hp k z1 z2 => ⟨hp, z1, z2⟩
    · intro ρ S3 hh
      rw [hJ] at hh
      obtain ⟨j, kv, u3, u4, u5, u6, u7, u8, u9, rfl, e3, hj, kj, hDp⟩ := hh
      (try simp only [st0, st1, st2, st3, st4, st5, st6, w_forC, w_forN, x_jZm, x_par3, kPar3_eq, x_iZx, zx_L, zx_T, zx_LT, zx_TL, w_gSubD, q_addJ, x_iDk, w_augS, w_aug, x_slT, q_dk, q_dt, w_dp, w_md, eVar, isT, tyN, isNo, gsN, wipeR, kSq, viewL, viewS, reduceIte, reduceCtorEq, Nat.reduceAdd, String.reduceBEq, Int.reducePow, Int.reduceLT, Int.reduceLE, Nat.reduceLT, Nat.reduceLeDiff, Int.reduceToNat, List.getElem?_cons_zero, List.getElem?_cons_succ, List.set_cons_zero, List.set_cons_succ, List.length_cons, List.length_nil, if_true, Option.map_some, if_false, forall_const, List.length_map, Option.some.injEq, exists_eq_left', exists_eq_left, List.any_cons, List.any_nil, beq_self_eq_true, Option.isSome_some, exists_eq, exists_eq'])
      have hv : eListVals Md.D (eVar 2) [some (.d (.list (cs.map vR))), some (.d (.list (mkL.map .int))), some (.c j), u3, u4, u5, u6, u7, u8, u9] S3 = some (.d (.list ((kv.map Prod.snd).map .int)), S3) := by
        unfold eListVals
        have e0 : eVar 2 [some (.d (.list (cs.map vR))), some (.d (.list (mkL.map .int))), some (.c j), u3, u4, u5, u6, u7, u8, u9] S3 = some (.c j, S3) := rfl
        rw [e0, bnd_some]
        unfold gListVals
        have kj' : S3[j]? = some (.dk (kvI (cmV kv))) := kj
        simp only [kj']
        have e1 : (kvI (cmV kv)).map Prod.snd = ((kv.map Prod.snd).map PyData.int).map Val.d := by
          unfold cmV
          rw [List.map_map, List.map_map, List.map_map, List.map_map]
          rfl
        rw [e1, alloc_D]
      rw [hv, wp_some]
      have hA := asg_col d
      obtain ⟨t, ht1, ht2⟩ := hDp.cmp _ hA
      have hne : kv.map Prod.snd ≠ [] := fun z => by
        have : t ∈ kv.map Prod.snd := List.mem_map.mpr ⟨_, ht1, rfl⟩
        rw [z] at this
        cases this
      obtain ⟨z, hz1, hz2, hz3⟩ := minI_least (S := S3) hne
      rw [hz2, wp_some]
      refine ⟨?_, e3⟩
      have h1 := hz3 t (List.mem_map.mpr ⟨_, ht1, rfl⟩)
      obtain ⟨p, hp, rfl⟩ := List.mem_map.mp hz1
      obtain ⟨cols, hA2, _, hs2⟩ := hDp.snd p hp
      rw [List.take_length] at hs2 ht2
      rw [← sumCZ hA2.len] at hs2
      rw [← sumCZ hA.len] at ht2
      have h2 := col_least d hA2
      have : p.2 = sumC cs ((rngI cs.length).map (colM s)) := by omega
      rw [this]

end QW

namespace QW
open PySem PySem.Spec PyProof.Rows L2 QL
/-! ### data of a bounded size -/
mutual
def gB (B : Nat) : PyData → Bool
  | .none => true
  | .bool _ => true
  | .int i => decide (i.natAbs ≤ B)
  | .str s => s.cps.toList.all fun c => decide (c ≤ 126)
  | .list ds => gBA B ds
  | .tuple ds => gBA B ds
  | .dict _ => false
def gBA (B : Nat) : List PyData → Bool
  | [] => true
  | d :: r => gB B d && gBA B r
end
mutual
def gS : PyData → Nat
  | .none => 1
  | .bool _ => 1
  | .int _ => 1
  | .str s => 1 + s.length
  | .list ds => 1 + gSA ds
  | .tuple ds => 1 + gSA ds
  | .dict _ => 1
def gSA : List PyData → Nat
  | [] => 0
  | d :: r => gS d + gSA r
end
theorem gS_pos (d : PyData) : 1 ≤ gS d := by cases d <;> simp only [gS] <;> omega
theorem gBA_iff {B : Nat} : ∀ {ds : List PyData}, gBA B ds = true ↔ ∀ d ∈ ds, gB B d = true
  | [] => by simp [gBA]
  | d :: r => by simp only [gBA, Bool.and_eq_true, gBA_iff, List.forall_mem_cons]
theorem dpA_iff {n : Nat} : ∀ {ds : List PyData}, PyData.depthAll ds ≤ n ↔ ∀ d ∈ ds, d.depth ≤ n
  | [] => by simp [PyData.depthAll]
  | d :: r => by simp only [PyData.depthAll, Nat.max_le, dpA_iff, List.forall_mem_cons]
theorem gSA_app : ∀ (a b : List PyData), gSA (a ++ b) = gSA a + gSA b
  | [], b => by simp [gSA]
  | d :: r, b => by simp only [List.cons_append, gSA, gSA_app r b]; omega
theorem gSA_len : ∀ ds : List PyData, ds.length ≤ gSA ds
  | [] => Nat.zero_le _
  | d :: r => by
    have := gSA_len r
    have := gS_pos d
    simp only [gSA, List.length_cons]
    omega
theorem gSA_sub {a b : List PyData} (h : a.Sublist b) : gSA a ≤ gSA b := by
  induction h with
  | slnil => exact Nat.le_refl _
  | cons _ _ ih => simp only [gSA]; omega
  | cons_cons _ _ ih => simp only [gSA]; omega
theorem gSA_perm {a b : List PyData} (h : a.Perm b) : gSA a = gSA b := by
  induction h with
  | nil => rfl
  | cons _ _ ih => simp only [gSA, ih]
  | swap => simp only [gSA]; omega
  | trans _ _ h1 h2 => exact h1.trans h2
theorem gSA_mem {ds : List PyData} {d : PyData} (h : d ∈ ds) : gS d ≤ gSA ds := by
  have := gSA_sub (List.singleton_sublist.mpr h)
  simpa [gSA] using this
structure Gd (B n w : Nat) (d : PyData) : Prop where
  b : gB B d = true
  dp : d.depth ≤ n
  sz : gS d ≤ w
structure GdA (B n w : Nat) (ds : List PyData) : Prop where
  b : ∀ d ∈ ds, gB B d = true ∧ d.depth ≤ n
  sz : gSA ds ≤ w
section
variable {B B' n n' w w' : Nat} {d : PyData} {ds es : List PyData}
mutual
theorem gB_mono (h : B ≤ B') : ∀ d : PyData, gB B d = true → gB B' d = true
  | .none, _ => rfl
  | .bool _, _ => rfl
  | .int i, k => by simp only [gB, decide_eq_true_eq] at *; omega
  | .str s, k => k
  | .list ds, k => by simp only [gB] at *; exact gBA_mono h ds k
  | .tuple ds, k => by simp only [gB] at *; exact gBA_mono h ds k
  | .dict _, k => by simp [gB] at k
theorem gBA_mono (h : B ≤ B') : ∀ ds : List PyData, gBA B ds = true → gBA B' ds = true
  | [], _ => rfl
  | d :: r, k => by
    simp only [gBA, Bool.and_eq_true] at *
    exact ⟨gB_mono h d k.1, gBA_mono h r k.2⟩
end
theorem Gd.mono (h : Gd B n w d) (a : B ≤ B') (b : n ≤ n') (c : w ≤ w') : Gd B' n' w' d := ⟨gB_mono a d h.b, Nat.le_trans h.dp b, Nat.le_trans h.sz c⟩
theorem GdA.mono (h : GdA B n w ds) (a : B ≤ B') (b : n ≤ n') (c : w ≤ w') : GdA B' n' w' ds := ⟨fun d hd => ⟨gB_mono a d (h.b d hd).1, Nat.le_trans (h.b d hd).2 b⟩, Nat.le_trans h.sz c⟩
theorem Gd.lst (h : GdA B n w ds) (a : n + 1 ≤ n') (b : w + 1 ≤ w') : Gd B n' w' (.list ds) := by
  refine ⟨by simp only [gB]; exact gBA_iff.mpr fun d hd => (h.b d hd).1, ?_, by have := h.sz; simp only [gS]; omega⟩
  have := dpA_iff.mpr fun d hd => (h.b d hd).2
  simp only [PyData.depth]
  omega
theorem Gd.tup (h : GdA B n w ds) (a : n + 1 ≤ n') (b : w + 1 ≤ w') : Gd B n' w' (.tuple ds) := by
  refine ⟨by simp only [gB]; exact gBA_iff.mpr fun d hd => (h.b d hd).1, ?_, by have := h.sz; simp only [gS]; omega⟩
  have := dpA_iff.mpr fun d hd => (h.b d hd).2
  simp only [PyData.depth]
  omega
theorem Gd.lst_inv (h : Gd B n w (.list ds)) : 1 ≤ n ∧ 1 ≤ w ∧ GdA B (n - 1) (w - 1) ds := by
  have h1 := h.b
  have h2 := h.dp
  have h3 := h.sz
  simp only [gB] at h1
  simp only [PyData.depth] at h2
  simp only [gS] at h3
  exact ⟨by omega, by omega, fun d hd => ⟨gBA_iff.mp h1 d hd, dpA_iff.mp (show PyData.depthAll ds ≤ n - 1 by omega) d hd⟩, by omega⟩
theorem Gd.tup_inv (h : Gd B n w (.tuple ds)) : 1 ≤ n ∧ 1 ≤ w ∧ GdA B (n - 1) (w - 1) ds := by
  have h1 := h.b
  have h2 := h.dp
  have h3 := h.sz
  simp only [gB] at h1
  simp only [PyData.depth] at h2
  simp only [gS] at h3
  exact ⟨by omega, by omega, fun d hd => ⟨gBA_iff.mp h1 d hd, dpA_iff.mp (show PyData.depthAll ds ≤ n - 1 by omega) d hd⟩, by omega⟩
theorem GdA.app (h : GdA B n w ds) (k : GdA B n w' es) : GdA B n (w + w') (ds ++ es) := by
  refine ⟨fun d hd => ?_, by rw [gSA_app]; have := h.sz; have := k.sz; omega⟩
  rcases List.mem_append.mp hd with q | q
  · exact h.b d q
  · exact k.b d q
theorem GdA.sub (h : GdA B n w ds) (k : es.Sublist ds) : GdA B n w es := ⟨fun d hd => h.b d (k.subset hd), Nat.le_trans (gSA_sub k) h.sz⟩
theorem GdA.perm (h : GdA B n w ds) (k : es.Perm ds) : GdA B n w es := ⟨fun d hd => h.b d (k.mem_iff.mp hd), by rw [gSA_perm k]; exact h.sz⟩
theorem GdA.one (h : Gd B n w d) : GdA B n w [d] := ⟨fun x hx => by rw [List.mem_singleton.mp hx]; exact ⟨h.b, h.dp⟩, by have := h.sz; simp only [gSA]; omega⟩
theorem GdA.get (h : GdA B n w ds) (k : d ∈ ds) : Gd B n w d := ⟨(h.b d k).1, (h.b d k).2, Nat.le_trans (gSA_mem k) h.sz⟩
theorem GdA.len (h : GdA B n w ds) : ds.length ≤ w := Nat.le_trans (gSA_len ds) h.sz
theorem GdA.cut {lo hi : Option Int} (h : GdA B n w ds) : GdA B n w (cutG ds lo hi) := by
  unfold cutG
  exact h.sub ((List.take_sublist _ _).trans (List.drop_sublist _ _))
theorem GdA.set {i : Nat} (h : GdA B n w ds) (k : Gd B n w' d) : GdA B n (w + w') (ds.set i d) := by
  by_cases hi : i < ds.length
  · rw [List.set_eq_take_append_cons_drop, if_pos hi]
    have e : ds.take i ++ d :: ds.drop (i + 1) = ds.take i ++ ([d] ++ ds.drop (i + 1)) := by simp
    rw [e]
    have h1 : (ds.take i ++ ds.drop (i + 1)).Sublist ds := by
      have : (ds.take i ++ ds.drop (i + 1)).Sublist (ds.take i ++ ds.drop i) := List.Sublist.append (List.Sublist.refl _) (by rw [← List.drop_drop]; exact List.drop_sublist _ _)
      rwa [List.take_append_drop] at this
    have h2 := h.sub h1
    have h3 : (ds.take i ++ ([d] ++ ds.drop (i + 1))).Perm ((ds.take i ++ ds.drop (i + 1)) ++ [d]) := by
      rw [List.append_assoc]
      exact List.Perm.append_left _ List.perm_append_comm
    exact (h2.app (GdA.one k)).perm h3
  · rw [List.set_eq_of_length_le (by omega)]
    exact h.mono (Nat.le_refl _) (Nat.le_refl _) (Nat.le_add_right _ _)
theorem Gd.int {i : Int} (h : i.natAbs ≤ B) (k : 1 ≤ w) : Gd B n w (.int i) := ⟨decide_eq_true h, Nat.zero_le _, k⟩
theorem Gd.bl {i : Bool} (k : 1 ≤ w) : Gd B n w (.bool i) := ⟨rfl, Nat.zero_le _, k⟩
theorem Gd.non (k : 1 ≤ w) : Gd B n w .none := ⟨rfl, Nat.zero_le _, k⟩
theorem Gd.int_inv {i : Int} (h : Gd B n w (.int i)) : i.natAbs ≤ B := by
  have := h.b
  simpa only [gB, decide_eq_true_eq] using this
def SG (L : Nat) (s : Str) : Prop := s.length ≤ L ∧ ∀ c ∈ s.cps.toList, c ≤ 126
theorem Gd.str {s : Str} (h : SG w s) (k : w + 1 ≤ w') : Gd B n w' (.str s) := by
  refine ⟨by simp only [gB, List.all_eq_true, decide_eq_true_eq]; exact h.2, Nat.zero_le _, by have := h.1; simp only [gS]; omega⟩
theorem Gd.str_inv {s : Str} (h : Gd B n w (.str s)) : 1 ≤ w ∧ SG (w - 1) s := by
  have h1 := h.b
  have h3 := h.sz
  simp only [gB, List.all_eq_true, decide_eq_true_eq] at h1
  simp only [gS] at h3
  exact ⟨by omega, by omega, h1⟩
mutual
theorem Gd.wt : ∀ d : PyData, gB B d = true → B < 100000000000000000000 → d.plain = true ∧ d.hasDict = false ∧ d.showable = true ∧ d.leavesShort 22 = true ∧ d.weight + 1 ≤ 72 * gS d
  | .none, _, _ => ⟨rfl, rfl, rfl, rfl, by simp only [PyData.weight, gS]; omega⟩
  | .bool _, _, _ => ⟨rfl, rfl, rfl, rfl, by simp only [PyData.weight, gS]; omega⟩
  | .int i, h, hB => by
    simp only [gB, decide_eq_true_eq] at h
    have t := Tm.int (n := 0) (w := 70) (i := i) (by omega) (by decide)
    refine ⟨rfl, rfl, t.shows, t.short, by have := t.wt; simp only [gS]; omega⟩
  | .str s, h, _ => by
    simp only [gB, List.all_eq_true, decide_eq_true_eq] at h
    refine ⟨rfl, rfl, rfl, ?_, ?_⟩
    · simp only [PyData.leavesShort, List.all_eq_true, decide_eq_true_eq]
      intro c hc
      have := h c hc
      omega
    · have : s.length = s.cps.size := rfl
      simp only [PyData.weight, gS]
      omega
  | .list ds, h, hB => by
    simp only [gB] at h
    obtain ⟨h1, h2, h3, h4, h5⟩ := GdA.wt ds h hB
    exact ⟨by simpa only [PyData.plain], by simpa only [PyData.hasDict], by simpa only [PyData.showable], by simpa only [PyData.leavesShort], by simp only [PyData.weight, gS]; omega⟩
  | .tuple ds, h, hB => by
    simp only [gB] at h
    obtain ⟨h1, h2, h3, h4, h5⟩ := GdA.wt ds h hB
    exact ⟨by simpa only [PyData.plain], by simpa only [PyData.hasDict], by simpa only [PyData.showable], by simpa only [PyData.leavesShort], by simp only [PyData.weight, gS]; omega⟩
  | .dict _, h, _ => by simp [gB] at h
theorem GdA.wt : ∀ ds : List PyData, gBA B ds = true → B < 100000000000000000000 → PyData.plainAll ds = true ∧ PyData.hasDictAll ds = false ∧ PyData.showableAll ds = true ∧ PyData.leavesShortAll 22 ds = true ∧ PyData.weightAll ds ≤ 72 * gSA ds
  | [], _, _ => ⟨rfl, rfl, rfl, rfl, Nat.zero_le _⟩
  | d :: r, h, hB => by
    simp only [gBA, Bool.and_eq_true] at h
    obtain ⟨h1, h2, h3, h4, h5⟩ := Gd.wt d h.1 hB
    obtain ⟨k1, k2, k3, k4, k5⟩ := GdA.wt r h.2 hB
    refine ⟨by simp only [PyData.plainAll, h1, k1, Bool.and_self], by simp only [PyData.hasDictAll, h2, k2, Bool.or_self], by simp only [PyData.showableAll, h3, k3, Bool.and_self], by simp only [PyData.leavesShortAll, h4, k4, Bool.and_self], by simp only [PyData.weightAll, gSA]; omega⟩
end
theorem Gd.tm (h : Gd B n w d) (hB : B < 100000000000000000000) : Tm n (72 * w) d := by
  obtain ⟨h1, h2, h3, h4, h5⟩ := Gd.wt d h.b hB
  exact ⟨h1, h2, h3, h4, h.dp, by have := h.sz; omega⟩
theorem Gd.plain (h : Gd B n w d) (hB : B < 100000000000000000000) : d.plain = true := (Gd.wt d h.b hB).1
end
/-! ### texts -/
section
variable {L L1 L2 : Nat} {s t z : Str} {S : Sto} {md : Md}
theorem SG.mono (h : SG L s) (k : L ≤ L1) : SG L1 s := ⟨Nat.le_trans h.1 k, h.2⟩
theorem SG.app (h : SG L1 s) (k : SG L2 t) : SG (L1 + L2) (s ++ t) := by
  refine ⟨by rw [strLen_append]; have := h.1; have := k.1; omega, fun c hc => ?_⟩
  rw [cps_app] at hc
  rcases List.mem_append.mp hc with q | q
  · exact h.2 c q
  · exact k.2 c q
theorem cutS_list (z : Str) (lo hi : Option Int) : (cutS z lo hi).cps.toList = cutG z.cps.toList lo hi := by
  have e : z.length = z.cps.toList.length := by rw [Array.length_toList]; rfl
  unfold cutS cutG
  rw [e]
theorem SG.cut {lo hi : Option Int} (h : SG L z) : SG L (cutS z lo hi) := by
  have hs : (cutG z.cps.toList lo hi).Sublist z.cps.toList := by
    unfold cutG
    exact (List.take_sublist _ _).trans (List.drop_sublist _ _)
  refine ⟨?_, fun c hc => h.2 c (hs.subset (by rw [← cutS_list]; exact hc))⟩
  have h1 := hs.length_le
  rw [← cutS_list, Array.length_toList, Array.length_toList] at h1
  exact Nat.le_trans h1 h.1
theorem SG.rep {n : Nat} (h : SG L z) : SG (n * L) (repS z n) := by
  refine ⟨by rw [repS_len]; exact Nat.mul_le_mul (Nat.le_refl _) h.1, fun c hc => ?_⟩
  rw [repS_list] at hc
  obtain ⟨l, hl, hc⟩ := List.mem_flatten.mp hc
  rw [List.mem_replicate] at hl
  exact h.2 c (by rw [← hl.2]; exact hc)
theorem SG.int {i : Int} (h : i.natAbs < 100000000000000000000) : SG 22 (PySem.Str.ofString (toString i)) := by
  refine ⟨?_, fun c hc => ?_⟩
  · rw [PySem.ofString_length]
    have := int_text_length_le10 (a := i) (k := 20) (by decide) (by simpa using h)
    omega
  · by_cases hk : c ≠ 45 ∧ (c < 48 ∨ 57 < c)
    · exact absurd hc (int_text_free' c hk i)
    · omega
theorem add_S (h : s.length + t.length ≤ 16777216) : gAdd md (.d (.str s)) (.d (.str t)) S = some (.d (.str (s ++ t)), S) := by
  unfold gAdd alt2 gAddI gI gAddS
  simp only []
  rw [if_pos (by rw [sizeLine_eq]; exact h)]
theorem sl_S {lo hi : Option Int} (h : z.length ≤ 16777216) : gSl md (.d (.str z)) lo hi S = some (.d (.str (cutS z lo hi)), S) := by
  show (if z.length ≤ sizeLine then _ else _) = _
  rw [if_pos (by rw [sizeLine_eq]; exact h)]
theorem mul_S {k : Int} (h1 : 2 ≤ k) (h2 : k ≤ 1000) (h : z.length ≤ 10000) : gMulX md (.d (.str z)) (.d (.int k)) S = some (.d (.str (repS z k.toNat)), S) := by
  have e : gMul md (.d (.str z)) (.d (.int k)) S = none := rfl
  unfold gMulX alt2
  rw [e]
  show (if 2 ≤ k ∧ k ≤ 1000 ∧ z.length ≤ 10000 then _ else _) = _
  rw [if_pos ⟨h1, h2, h⟩]
theorem str_I {i : Int} (h : i.natAbs < 100000000000000000000) : gStrA [.d (.int i)] S = some (.d (.str (PySem.Str.ofString (toString i))), S) := by
  have h2 : i.natAbs.log2 < 1920 := by
    rcases Nat.eq_zero_or_pos i.natAbs with h0 | hp
    · rw [h0]; decide
    · exact (Nat.log2_lt (Nat.ne_of_gt hp)).mpr (Nat.lt_trans h (by decide +kernel))
  unfold gStrA altC gStr
  simp only [h2, if_true]
theorem ix_S {i : Int} {c : Nat} (h : z.length ≤ 16777216) (k : atI z.cps.toList i = some c) : gIx (.d (.str z)) (.d (.int i)) S = some (.d (.str ⟨#[c]⟩), S) := by
  unfold gIx
  simp only [if_pos (show z.length ≤ sizeLine by rw [sizeLine_eq]; exact h), k]
  rfl
theorem SG.chr {c : Nat} (h : c ≤ 126) : SG 1 ⟨#[c]⟩ := ⟨Nat.le_refl _, fun d hd => by
  have : d = c := by simpa using hd
  omega⟩
end

end QW

namespace QW
open PySem PySem.Spec PyProof.Rows L2 QL
/-! ### papers spoilt -/
def BI (B : Int) (xs : List Int) : Prop := ∀ x ∈ xs, -B ≤ x ∧ x ≤ B
theorem gdA_ints {B : Nat} {xs : List Int} (h : BI B xs) : GdA B 0 xs.length (xs.map .int) := by
  induction xs with
  | nil => exact ⟨fun d hd => (nomatch hd), Nat.le_refl _⟩
  | cons x t ih =>
    have h1 := h x (by simp)
    have h2 : GdA B 0 1 [PyData.int x] := GdA.one (Gd.int (by omega) (Nat.le_refl _))
    have h3 := h2.app (ih fun y hy => h y (List.mem_cons_of_mem _ hy))
    rw [List.map_cons, List.length_cons, Nat.add_comm t.length 1]
    exact h3
theorem gd_ints {B w : Nat} {xs : List Int} (h : BI B xs) (hw : xs.length + 1 ≤ w) : Gd B 1 w (.list (xs.map .int)) := Gd.lst (gdA_ints h) (Nat.le_refl _) hw
theorem gdA_rows {B m : Nat} : ∀ {cs : List (List Int)}, (∀ r ∈ cs, BI B r) → (∀ r ∈ cs, r.length ≤ m) → GdA B 1 (cs.length * (m + 1)) (cs.map vR)
  | [], _, _ => ⟨fun d hd => (nomatch hd), Nat.zero_le _⟩
  | r :: t, h, hl => by
    have h1 : GdA B 1 (m + 1) [vR r] := GdA.one (gd_ints (h r (by simp)) (by have := hl r (by simp); omega))
    have h2 := gdA_rows (fun y hy => h y (List.mem_cons_of_mem _ hy)) fun y hy => hl y (List.mem_cons_of_mem _ hy)
    have h3 := h1.app h2
    rw [List.map_cons, List.length_cons, Nat.succ_mul, Nat.add_comm]
    exact h3
end QW

namespace QW
open PySem PySem.Spec PyProof.Rows L2 QL
/-! ### the least sum, told -/
theorem lis_eq {i : Int} {S : Sto} : p_law_is_number [.d (.int i)] S = some (.d (.bool true), S) := by
  unfold p_law_is_number
  refine w_fnE ?_
  show wpS (f_law_is_number [some (.d (.int i))] _) _
  unfold f_law_is_number
  simp only [st0, st1, st2, st3, st4, st5, st6, w_seq, w_if, w_forC, w_forN, x_jZm, x_par3, kPar3_eq, x_iZx, zx_L, zx_T, zx_LT, zx_TL, w_gSubD, q_addJ, x_iDk, w_augS, w_aug, x_slT, q_dk, q_dt, w_dp, w_md, eVar, isT, tyN, isNo, gsN, wipeR, kSq, viewL, viewS, reduceIte, reduceCtorEq, Nat.reduceAdd, String.reduceBEq, Int.reducePow, Int.reduceLT, Int.reduceLE, Nat.reduceLT, Nat.reduceLeDiff, Int.reduceToNat, List.getElem?_cons_zero, List.getElem?_cons_succ, List.set_cons_zero, List.set_cons_succ, List.length_cons, List.length_nil, if_true, Option.map_some, if_false, forall_const, List.length_map, Option.some.injEq, exists_eq_left', exists_eq_left, List.any_cons, List.any_nil, beq_self_eq_true, Option.isSome_some, exists_eq, exists_eq']
  try exact Ex.refl S
theorem all_true {α : Type} (xs : List α) : gAll [Val.d (.list (xs.map fun _ => PyData.bool true))] = fun S => some (.d (.bool true), S) := by
  funext S
  rw [show (xs.map fun _ => PyData.bool true) = (xs.map fun _ => true).map PyData.bool from by rw [List.map_map]; rfl, q_allD]
  have : (xs.map fun _ => true).all id = true := List.all_eq_true.mpr fun b hb => by obtain ⟨x, _, rfl⟩ := List.mem_map.mp hb; rfl
  rw [this]
theorem lnums_live {S : Sto} {j : Nat} {xs : List Int} {m : Int} (h : S[j]? = some (tc PyData.int xs)) (hm : (xs.length : Int) = m) (hl : xs.length < 100000) : p_law_are_numbers [.c j, .d (.int m)] S = some (.d (.bool true), S) := by
  unfold p_law_are_numbers
  refine w_fnE ?_
  show wpS (f_law_are_numbers [some (.c j), some (.d (.int m)), none] _) _
  unfold f_law_are_numbers
  have hv : viewQ S (.c j) = some ((xs.map PyData.int).map .d) := tc_vQ h
  have hsome : (viewQ S (.c j)).isSome = true := by rw [hv]; rfl
  have h' : S[j]? = some (.lst ((xs.map PyData.int).map Val.d)) := h
  (try simp only [st0, st1, st2, st3, st4, st5, st6, w_forC, w_forN, x_jZm, x_par3, kPar3_eq, x_iZx, zx_L, zx_T, zx_LT, zx_TL, w_gSubD, q_addJ, x_iDk, w_augS, w_aug, x_slT, q_dk, q_dt, w_dp, w_md, eVar, isT, tyN, isNo, gsN, wipeR, kSq, viewL, viewS, reduceIte, reduceCtorEq, Nat.reduceAdd, String.reduceBEq, Int.reducePow, Int.reduceLT, Int.reduceLE, Nat.reduceLT, Nat.reduceLeDiff, Int.reduceToNat, List.getElem?_cons_zero, List.getElem?_cons_succ, List.set_cons_zero, List.set_cons_succ, List.length_cons, List.length_nil, if_true, Option.map_some, if_false, forall_const, List.length_map, Option.some.injEq, exists_eq_left', exists_eq_left, List.any_cons, List.any_nil, beq_self_eq_true, Option.isSome_some, exists_eq, exists_eq', h', look_c (ds := xs.map .int) h', tc_len h, hm, hsome])
  refine w_lcDM (xs := xs) (v := fun i => Val.d (.int i)) (fun _ => .bool true) (dSeq_tc h) (by omega) (fun x hx => ?_) ?_
  · simp only [st0, st1, st2, st3, st4, st5, st6, w_seq, w_if, w_forC, w_forN, x_jZm, x_par3, kPar3_eq, x_iZx, zx_L, zx_T, zx_LT, zx_TL, w_gSubD, q_addJ, x_iDk, w_augS, w_aug, x_slT, q_dk, q_dt, w_dp, w_md, eVar, isT, tyN, isNo, gsN, wipeR, kSq, viewL, viewS, reduceIte, reduceCtorEq, Nat.reduceAdd, String.reduceBEq, Int.reducePow, Int.reduceLT, Int.reduceLE, Nat.reduceLT, Nat.reduceLeDiff, Int.reduceToNat, List.getElem?_cons_zero, List.getElem?_cons_succ, List.set_cons_zero, List.set_cons_succ, List.length_cons, List.length_nil, if_true, Option.map_some, if_false, forall_const, List.length_map, Option.some.injEq, exists_eq_left', exists_eq_left, List.any_cons, List.any_nil, beq_self_eq_true, Option.isSome_some, exists_eq, exists_eq', lis_eq]
  · rw [alloc_D, wp_some, all_true, wp_some]
    exact ⟨rfl, Ex.refl S⟩
theorem sum_bd {M : Int} : ∀ {xs : List Int}, (∀ x ∈ xs, 0 ≤ x ∧ x ≤ M) → 0 ≤ xs.sum ∧ xs.sum ≤ xs.length * M
  | [], _ => by simp
  | x :: t, h => by
    have h1 := h x (by simp)
    have h2 := sum_bd fun y hy => h y (List.mem_cons_of_mem _ hy)
    rw [List.sum_cons, List.length_cons, Int.natCast_succ, Int.add_mul, Int.one_mul]
    omega
theorem zp_len (xs ys : List PyData) : zipD xs ys = (xs.zip ys).map fun p => .tuple [p.1, p.2] := by
  induction xs generalizing ys with
  | nil => rfl
  | cons x t ih =>
    cases ys with
    | nil => rfl
    | cons y u => rw [List.zip_cons_cons, List.map_cons, ← ih]; rfl
theorem lookT {S : Sto} {j : Nat} {a : Int} {xs : List Int} (h : S[j]? = some (tc PyData.int xs)) : look S (.t [.d (.int a), .c j]) = some (.tuple [.int a, .list (xs.map .int)]) := by
  show (mapO (peek 5 S) [.d (.int a), .c j]).map PyData.tuple = _
  have e3 : peek 5 S (.c j) = some (.list (xs.map .int)) := peek_c 4 h
  simp only [mapO, e3]
  rfl
theorem shT {S : Sto} {j : Nat} {a : Int} {xs : List Int} (h : S[j]? = some (tc PyData.int xs)) (ht : Tm 60 500000 (.tuple [.int a, .list (xs.map .int)])) : gStrA [.t [.d (.int a), .c j]] S = some (.d (.str (PyData.tuple [.int a, .list (xs.map .int)]).shown), S) := by
  have e : gStr [Val.t [.d (.int a), .c j]] S = none := rfl
  unfold gStrA altC
  rw [e]
  show gStrD [.t [.d (.int a), .c j]] S = _
  unfold gStrD
  simp only [lookT h]
  rw [if_pos ⟨rfl, ht.shows, ht.nodict, ht.dep, ht.shownLe (Nat.le_refl _)⟩]
theorem zipMI {cs : List (List Int)} {cols : List Int} : List.zipWith mkP (cs.map fun r => Val.d (vR r)) (cols.map fun c => Val.d (.int c)) = (cs.zip cols).map fun p => Val.d (.tuple [vR p.1, .int p.2]) := by
  induction cs generalizing cols with
  | nil => rfl
  | cons x t ih =>
    cases cols with
    | nil => rfl
    | cons y u => rw [List.map_cons, List.map_cons, List.zipWith_cons_cons, ih, List.zip_cons_cons, List.map_cons]; rfl
theorem jZ0_dc {S : Sto} {ds : List PyData} {j : Nat} {vs : List Val} (h : viewQ S (.c j) = some vs) : jZ0 [.d (.list ds), .c j] S = some (dZp (.d (.list ds)) (.c j), S) := by
  unfold jZ0
  have h2 : (viewQ S (.d (.list ds))).isSome = true := rfl
  have h3 : (viewQ S (.c j)).isSome = true := by rw [h]; rfl
  exact if_pos ⟨h2, rfl, h3, rfl⟩
theorem right_ok {S : Sto} {k N : Nat} (hb : Bx N S k) (hN : N < 500000) : wp (p_law_right [.c k] S) fun r S' => ∃ x, r = .d x ∧ Dr k (N + 20000) S S' ∧ x = .bool true := by
  unfold p_law_right
  refine w_fnD hb ?_
  show wpS (f_law_right [some (.c k), none, none, none, none, none, none, none, none] _) _
  unfold f_law_right
  rw [w_seq]
  (try simp only [st0, st1, st2, st3, st4, st5, st6, w_forC, w_forN, x_jZm, x_par3, kPar3_eq, x_iZx, zx_L, zx_T, zx_LT, zx_TL, w_gSubD, q_addJ, x_iDk, w_augS, w_aug, x_slT, q_dk, q_dt, w_dp, w_md, eVar, isT, tyN, isNo, gsN, wipeR, kSq, viewL, viewS, reduceIte, reduceCtorEq, Nat.reduceAdd, String.reduceBEq, Int.reducePow, Int.reduceLT, Int.reduceLE, Nat.reduceLT, Nat.reduceLeDiff, Int.reduceToNat, List.getElem?_cons_zero, List.getElem?_cons_succ, List.set_cons_zero, List.set_cons_succ, List.length_cons, List.length_nil, if_true, Option.map_some, if_false, forall_const, List.length_map, Option.some.injEq, exists_eq_left', exists_eq_left, List.any_cons, List.any_nil, beq_self_eq_true, Option.isSome_some, exists_eq, exists_eq'])
  obtain ⟨I, hI⟩ : ∃ X : Nat → Rho → Sto → Prop, X = fun (i : Nat) (ρ : Rho) (S' : Sto) => ∃ (u1 u2 u3 u4 u5 u6 u7 u8 : Option Val), ρ = [some (.c k), u1, u2, u3, u4, u5, u6, u7, u8] ∧ Gr k (N + 1000 * i) S S' := ⟨_, rfl⟩
  refine w_loop I (by rw [hI]; exact ⟨_, _, _, _, _, _, _, _, rfl, (Gr.refl hb).mono (by omega)⟩) ?_ ?_
  · intro i d ρ S1 hd h
    rw [hI] at h
    obtain ⟨u1, u2, u3, u4, u5, u6, u7, u8, rfl, g1⟩ := h
    obtain ⟨hi, rfl⟩ := rng_get hd
    have hi : i < 2 := hi
    (try simp only [st0, st1, st2, st3, st4, st5, st6, w_forC, w_forN, x_jZm, x_par3, kPar3_eq, x_iZx, zx_L, zx_T, zx_LT, zx_TL, w_gSubD, q_addJ, x_iDk, w_augS, w_aug, x_slT, q_dk, q_dt, w_dp, w_md, eVar, isT, tyN, isNo, gsN, wipeR, kSq, viewL, viewS, reduceIte, reduceCtorEq, Nat.reduceAdd, String.reduceBEq, Int.reducePow, Int.reduceLT, Int.reduceLE, Nat.reduceLT, Nat.reduceLeDiff, Int.reduceToNat, List.getElem?_cons_zero, List.getElem?_cons_succ, List.set_cons_zero, List.set_cons_succ, List.length_cons, List.length_nil, if_true, Option.map_some, if_false, forall_const, List.length_map, Option.some.injEq, exists_eq_left', exists_eq_left, List.any_cons, List.any_nil, beq_self_eq_true, Option.isSome_some, exists_eq, exists_eq'])
    rw [w_seq]
    (try simp only [st0, st1, st2, st3, st4, st5, st6, w_forC, w_forN, x_jZm, x_par3, kPar3_eq, x_iZx, zx_L, zx_T, zx_LT, zx_TL, w_gSubD, q_addJ, x_iDk, w_augS, w_aug, x_slT, q_dk, q_dt, w_dp, w_md, eVar, isT, tyN, isNo, gsN, wipeR, kSq, viewL, viewS, reduceIte, reduceCtorEq, Nat.reduceAdd, String.reduceBEq, Int.reducePow, Int.reduceLT, Int.reduceLE, Nat.reduceLT, Nat.reduceLeDiff, Int.reduceToNat, List.getElem?_cons_zero, List.getElem?_cons_succ, List.set_cons_zero, List.set_cons_succ, List.length_cons, List.length_nil, if_true, Option.map_some, if_false, forall_const, List.length_map, Option.some.injEq, exists_eq_left', exists_eq_left, List.any_cons, List.any_nil, beq_self_eq_true, Option.isSome_some, exists_eq, exists_eq'])
    refine costs_ok g1.box (by omega) fun cs n S2 hcs h0 hm hn hc g2 => ?_
    have g12 := g1.dr g2
    have hM : ∀ r c, 0 ≤ r → r < (cs.length : Int) → 0 ≤ c → c < (n : Int) → CC cs r c ≤ 1000000 := fun r c r0 r1 c0 c1 => by
      obtain ⟨row, e1, hrm, hrl⟩ := cs_row hcs r0 r1
      obtain ⟨row2, e2, e3, _⟩ := cs_cell hcs r0 r1 c0 c1
      rw [e1] at e2
      cases e2
      have e4 : row[c.toNat]? = some (CC cs r c) := by
        have := e3
        unfold atI ixN at this
        rw [if_pos c0, if_pos (by omega)] at this
        exact this
      exact hc row hrm _ (List.mem_of_getElem? e4)
    obtain ⟨hd, hbd⟩ := seqG_ok hcs hM cs.length (Nat.le_refl _)
    have hless : ∀ S, p_law_least_sum [.d (vC cs)] S = some (.d (.int (sumC cs ((rngI cs.length).map (colM (seqG cs n 1000000 cs.length))))), S) := fun S => least_eq hcs hn hm hd hc
    have hasg := asg_col hd
    have hGc : Gd 15000000 2 200 (vC cs) := by
      have h1 : GdA 15000000 1 (cs.length * 16) (cs.map vR) := gdA_rows (m := 15) (fun r hr x hx => by have := hc r hr x hx; have := hcs.ps r hr x hx; omega) fun r hr => by rw [hcs.rw r hr]; omega
      have h2 : Gd 15000000 2 (cs.length * 16 + 1) (.list (cs.map vR)) := Gd.lst h1 (Nat.le_refl _) (Nat.le_refl _)
      exact h2.mono (Nat.le_refl _) (Nat.le_refl _) (by omega)
    have hTc : Tm 60 500000 (vC cs) := (hGc.tm (by decide)).mono (by decide) (by decide)
    have hsc : ∀ S, gStrA [.d (vC cs)] S = some (.d (.str (vC cs).shown), S) := fun S => x_strA hTc rfl
    rw [w_seq]
    (try simp only [st0, st1, st2, st3, st4, st5, st6, w_forC, w_forN, x_jZm, x_par3, kPar3_eq, x_iZx, zx_L, zx_T, zx_LT, zx_TL, w_gSubD, q_addJ, x_iDk, w_augS, w_aug, x_slT, q_dk, q_dt, w_dp, w_md, eVar, isT, tyN, isNo, gsN, wipeR, kSq, viewL, viewS, reduceIte, reduceCtorEq, Nat.reduceAdd, String.reduceBEq, Int.reducePow, Int.reduceLT, Int.reduceLE, Nat.reduceLT, Nat.reduceLeDiff, Int.reduceToNat, List.getElem?_cons_zero, List.getElem?_cons_succ, List.set_cons_zero, List.set_cons_succ, List.length_cons, List.length_nil, if_true, Option.map_some, if_false, forall_const, List.length_map, Option.some.injEq, exists_eq_left', exists_eq_left, List.any_cons, List.any_nil, beq_self_eq_true, Option.isSome_some, exists_eq, exists_eq', hsc])
    refine matched_c hcs hM h0 ?_
    have k3 : ∀ S0 : Sto, (mtS S0 cs n (seqG cs n 1000000 cs.length) [tc PyData.int ((rngI cs.length).map (colM (seqG cs n 1000000 cs.length)))])[S0.length + 4]? = some (tc PyData.int ((rngI cs.length).map (colM (seqG cs n 1000000 cs.length)))) := fun S0 => mt_4
    have hex : ∀ S0 : Sto, Ex S0 (mtS S0 cs n (seqG cs n 1000000 cs.length) [tc PyData.int ((rngI cs.length).map (colM (seqG cs n 1000000 cs.length)))]) := fun S0 => ⟨by rw [mt_len]; omega, fun i hi => by unfold mtS; exact List.getElem?_append_left hi⟩
    have hsum0 : 0 ≤ sumC cs ((rngI cs.length).map (colM (seqG cs n 1000000 cs.length))) ∧ sumC cs ((rngI cs.length).map (colM (seqG cs n 1000000 cs.length))) ≤ 12000000 := by
      have hl : ((rngI cs.length).map (colM (seqG cs n 1000000 cs.length))).length = cs.length := hasg.len
      have := sum_bd (M := 1000000) (xs := (enI ((rngI cs.length).map (colM (seqG cs n 1000000 cs.length)))).map fun p => CC cs p.1 p.2) fun x hx => by
        obtain ⟨p, hp, rfl⟩ := List.mem_map.mp hx
        obtain ⟨h1, h2⟩ := enI_mem hp
        have h3 := atI_some h1 h2
        rw [hl] at h3
        have hmem : p.2 ∈ (rngI cs.length).map (colM (seqG cs n 1000000 cs.length)) := by
          have := h2
          unfold atI ixN at this
          rw [if_pos h1, if_pos (by rw [hl]; omega)] at this
          exact List.mem_of_getElem? this
        have h4 := hasg.rg _ hmem
        obtain ⟨row, e1, e2, e3⟩ := cs_cell hcs h1 h3 h4.1 h4.2
        exact ⟨e3, hM _ _ h1 h3 h4.1 h4.2⟩
      rw [List.length_map, enI_len, hl] at this
      unfold sumC
      omega
    have hzs : sumC cs ((rngI cs.length).map (colM (seqG cs n 1000000 cs.length))) = sumZ cs ((rngI cs.length).map (colM (seqG cs n 1000000 cs.length))) := sumCZ hasg.len
    have hagain : ∀ {S0 : Sto} {Q : Val → Sto → Prop}, Q (.t [.d (.int (sumC cs ((rngI cs.length).map (colM (seqG cs n 1000000 cs.length))))), .c (S0.length + 4)]) (mtS S0 cs n (seqG cs n 1000000 cs.length) [tc PyData.int ((rngI cs.length).map (colM (seqG cs n 1000000 cs.length)))]) → wp (p_matched_slots [.d (vC cs)] S0) Q := fun {S0 Q} q => matched_c hcs hM h0 q
    generalize seqG cs n 1000000 cs.length = sq at *
    generalize sumC cs ((rngI cs.length).map (colM sq)) = sm at *
    generalize (rngI cs.length).map (colM sq) = cols at *
    have k3' := k3 S2
    have g3 := g12.ex (hex S2)
    have hl : (cols.length : Int) = cs.length := by exact_mod_cast hasg.len
    have hrg : ∀ c ∈ cols, 0 ≤ c ∧ c < (n : Int) := hasg.rg
    obtain ⟨j, hj⟩ : ∃ j, j = S2.length + 4 := ⟨_, rfl⟩
    have hjl : S.length ≤ j := by have := g12.len; omega
    have hjk : j ≠ k := by have := hb.lt; omega
    have hTt : Tm 60 500000 (.tuple [.int sm, .list (cols.map .int)]) := by
      have h0 : Gd 15000000 1 1 (.int sm) := Gd.int (by omega) (Nat.le_refl _)
      have h1 : Gd 15000000 2 40 (.tuple [.int sm, .list (cols.map .int)]) := Gd.tup (w := 1 + 16) ((GdA.one h0).app (GdA.one (gd_ints (w := 16) (fun x hx => by have := hrg x hx; omega) (by omega)))) (Nat.le_refl _) (by omega)
      exact (h1.tm (by decide)).mono (by decide) (by decide)
    generalize mtS S2 cs n sq [tc PyData.int cols] = S3 at k3' g3
    rw [← hj] at k3' ⊢
    have it1 : ∀ S, gIx (.t [.d (.int sm), .c j]) (.d (.int 1)) S = some (.c j, S) := fun _ => rfl
    have it0 : ∀ S, gIx (.t [.d (.int sm), .c j]) (.d (.int 0)) S = some (.d (.int sm), S) := fun _ => rfl
    have hlt : ∀ S, gLen [.t [.d (.int sm), .c j]] S = some (.d (.int 2), S) := fun _ => rfl
    have hcl : ∀ S, gLen [.d (vC cs)] S = some (.d (.int cs.length), S) := fun _ => lenC
    have hcw : ∀ c, gLen [.c c] = gLen [.c c] := fun _ => rfl
    rw [w_seq, w_if]
    have hlk := lookT (a := sm) k3'
    have hln := lnums_live k3' hl (by omega)
    (try simp only [st0, st1, st2, st3, st4, st5, st6, w_forC, w_forN, x_jZm, x_par3, kPar3_eq, x_iZx, zx_L, zx_T, zx_LT, zx_TL, w_gSubD, q_addJ, x_iDk, w_augS, w_aug, x_slT, q_dk, q_dt, w_dp, w_md, eVar, isT, tyN, isNo, gsN, wipeR, kSq, viewL, viewS, reduceIte, reduceCtorEq, Nat.reduceAdd, String.reduceBEq, Int.reducePow, Int.reduceLT, Int.reduceLE, Nat.reduceLT, Nat.reduceLeDiff, Int.reduceToNat, List.getElem?_cons_zero, List.getElem?_cons_succ, List.set_cons_zero, List.set_cons_succ, List.length_cons, List.length_nil, if_true, Option.map_some, if_false, forall_const, List.length_map, Option.some.injEq, exists_eq_left', exists_eq_left, List.any_cons, List.any_nil, beq_self_eq_true, Option.isSome_some, exists_eq, exists_eq', it1, hlt, hcl, hlk, hln])
    rw [w_seq]
    (try simp only [st0, st1, st2, st3, st4, st5, st6, w_forC, w_forN, x_jZm, x_par3, kPar3_eq, x_iZx, zx_L, zx_T, zx_LT, zx_TL, w_gSubD, q_addJ, x_iDk, w_augS, w_aug, x_slT, q_dk, q_dt, w_dp, w_md, eVar, isT, tyN, isNo, gsN, wipeR, kSq, viewL, viewS, reduceIte, reduceCtorEq, Nat.reduceAdd, String.reduceBEq, Int.reducePow, Int.reduceLT, Int.reduceLE, Nat.reduceLT, Nat.reduceLeDiff, Int.reduceToNat, List.getElem?_cons_zero, List.getElem?_cons_succ, List.set_cons_zero, List.set_cons_succ, List.length_cons, List.length_nil, if_true, Option.map_some, if_false, forall_const, List.length_map, Option.some.injEq, exists_eq_left', exists_eq_left, List.any_cons, List.any_nil, beq_self_eq_true, Option.isSome_some, exists_eq, exists_eq', it1])
    rw [w_seq, w_if]
    (try simp only [st0, st1, st2, st3, st4, st5, st6, w_forC, w_forN, x_jZm, x_par3, kPar3_eq, x_iZx, zx_L, zx_T, zx_LT, zx_TL, w_gSubD, q_addJ, x_iDk, w_augS, w_aug, x_slT, q_dk, q_dt, w_dp, w_md, eVar, isT, tyN, isNo, gsN, wipeR, kSq, viewL, viewS, reduceIte, reduceCtorEq, Nat.reduceAdd, String.reduceBEq, Int.reducePow, Int.reduceLT, Int.reduceLE, Nat.reduceLT, Nat.reduceLeDiff, Int.reduceToNat, List.getElem?_cons_zero, List.getElem?_cons_succ, List.set_cons_zero, List.set_cons_succ, List.length_cons, List.length_nil, if_true, Option.map_some, if_false, forall_const, List.length_map, Option.some.injEq, exists_eq_left', exists_eq_left, List.any_cons, List.any_nil, beq_self_eq_true, Option.isSome_some, exists_eq, exists_eq'])
    refine ⟨by rw [tc_vQ k3']; rfl, w_lcDM (xs := cols) (v := fun i => Val.d (.int i)) (fun _ => .bool true) (dSeq_tc k3') (by omega) (fun x hx => ?_) ?_⟩
    · have hx2 := hrg x hx
      have hpos : 0 < cs.length := by
        have := List.length_pos_of_mem hx
        omega
      obtain ⟨row, er, _, erl⟩ := cs_row hcs (Int.le_refl 0) (by omega)
      (try simp only [st0, st1, st2, st3, st4, st5, st6, w_forC, w_forN, x_jZm, x_par3, kPar3_eq, x_iZx, zx_L, zx_T, zx_LT, zx_TL, w_gSubD, q_addJ, x_iDk, w_augS, w_aug, x_slT, q_dk, q_dt, w_dp, w_md, eVar, isT, tyN, isNo, gsN, wipeR, kSq, viewL, viewS, reduceIte, reduceCtorEq, Nat.reduceAdd, String.reduceBEq, Int.reducePow, Int.reduceLT, Int.reduceLE, Nat.reduceLT, Nat.reduceLeDiff, Int.reduceToNat, List.getElem?_cons_zero, List.getElem?_cons_succ, List.set_cons_zero, List.set_cons_succ, List.length_cons, List.length_nil, if_true, Option.map_some, if_false, forall_const, List.length_map, Option.some.injEq, exists_eq_left', exists_eq_left, List.any_cons, List.any_nil, beq_self_eq_true, Option.isSome_some, exists_eq, exists_eq', cs_ix er])
      have hb2 : row.length = n := erl
      simp only [hb2, hx2.1, hx2.2, decide_true, forall_const, true_and, and_true, not_true_eq_false, false_implies]
      trace_state
    rw [alloc_D, wp_some, all_true, wp_some]
    have hls : ∀ (ρ : Rho) (S : Sto), ρ[5]? = some (some (.c j)) → S[j]? = some (tc PyData.int cols) → eLenS (eVar 5) ρ S = some (.d (.int (cols.length : Nat)), S) := by
      intro ρ S hρ hS
      have hv : eVar 5 ρ S = some (.c j, S) := by unfold eVar; rw [hρ]
      unfold eLenS
      rw [hv, bnd_some]
      have e : lookIs S (.c j) = some cols := by
        unfold lookIs
        rw [look_c (ds := cols.map .int) hS]
        exact mapI_d cols
      rw [e]
      have e2 : (ddI cols).length = cols.length := ddI_len.mpr hasg.nd
      show (if cols.length ≤ 4000 then some (Val.d (.int ((ddI cols).length : Nat)), S) else none) = _
      rw [if_pos (by omega), e2]
    (try simp only [st0, st1, st2, st3, st4, st5, st6, w_forC, w_forN, x_jZm, x_par3, kPar3_eq, x_iZx, zx_L, zx_T, zx_LT, zx_TL, w_gSubD, q_addJ, x_iDk, w_augS, w_aug, x_slT, q_dk, q_dt, w_dp, w_md, eVar, isT, tyN, isNo, gsN, wipeR, kSq, viewL, viewS, reduceIte, reduceCtorEq, Nat.reduceAdd, String.reduceBEq, Int.reducePow, Int.reduceLT, Int.reduceLE, Nat.reduceLT, Nat.reduceLeDiff, Int.reduceToNat, List.getElem?_cons_zero, List.getElem?_cons_succ, List.set_cons_zero, List.set_cons_succ, List.length_cons, List.length_nil, if_true, Option.map_some, if_false, forall_const, List.length_map, Option.some.injEq, exists_eq_left', exists_eq_left, List.any_cons, List.any_nil, beq_self_eq_true, Option.isSome_some, exists_eq, exists_eq', hls, tc_len k3', k3'])
    rw [w_seq, w_if]
    have hjz : jZ0 [.d (vC cs), .c j] S3 = some (dZp (.d (vC cs)) (.c j), S3) := jZ0_dc (ds := cs.map vR) (tc_vQ k3')
    have hdz : ∀ i, dZp (.d (vC cs)) (.c j) S3 i = some ((cs.zip cols).map fun p => Val.d (.tuple [vR p.1, .int p.2]))[i]? := by
      intro i
      unfold dZp
      rw [tc_vQ k3', show viewQ S3 (.d (vC cs)) = some ((cs.map vR).map .d) from rfl]
      rw [← zipMI, List.getElem?_zipWith]
      simp only [List.map_map, List.getElem?_map]
      cases hx : cs[i]? <;> cases hy : cols[i]? <;> rfl
    (try simp only [st0, st1, st2, st3, st4, st5, st6, w_forC, w_forN, x_jZm, x_par3, kPar3_eq, x_iZx, zx_L, zx_T, zx_LT, zx_TL, w_gSubD, q_addJ, x_iDk, w_augS, w_aug, x_slT, q_dk, q_dt, w_dp, w_md, eVar, isT, tyN, isNo, gsN, wipeR, kSq, viewL, viewS, reduceIte, reduceCtorEq, Nat.reduceAdd, String.reduceBEq, Int.reducePow, Int.reduceLT, Int.reduceLE, Nat.reduceLT, Nat.reduceLeDiff, Int.reduceToNat, List.getElem?_cons_zero, List.getElem?_cons_succ, List.set_cons_zero, List.set_cons_succ, List.length_cons, List.length_nil, if_true, Option.map_some, if_false, forall_const, List.length_map, Option.some.injEq, exists_eq_left', exists_eq_left, List.any_cons, List.any_nil, beq_self_eq_true, Option.isSome_some, exists_eq, exists_eq', it0, hjz])
    refine w_lcDM (xs := cs.zip cols) (v := fun p => Val.d (.tuple [vR p.1, .int p.2])) (fun p => .int ((atI p.1 p.2).getD 0)) hdz (by rw [List.length_zip]; omega) (fun p hp => ?_) ?_
    · have hz := List.of_mem_zip hp
      have hc2 := hrg _ hz.2
      have hrw := hcs.rw _ hz.1
      have g2r : ∀ (r : Gs) (ρ : Rho) (S : Sto), gTu 2 r (.d (.tuple [vR p.1, .int p.2])) ρ S = r [.d (vR p.1), .d (.int p.2)] ρ S := fun _ _ _ => rfl
      have hix : ∀ S, gIx (.d (vR p.1)) (.d (.int p.2)) S = some (.d (.int ((atI p.1 p.2).getD 0)), S) := fun S => by
        refine row_ix ?_
        rw [atI_get hc2.1 (by omega)]
        rfl
      simp only [st0, st1, st2, st3, st4, st5, st6, w_seq, w_if, w_forC, w_forN, x_jZm, x_par3, kPar3_eq, x_iZx, zx_L, zx_T, zx_LT, zx_TL, w_gSubD, q_addJ, x_iDk, w_augS, w_aug, x_slT, q_dk, q_dt, w_dp, w_md, eVar, isT, tyN, isNo, gsN, wipeR, kSq, viewL, viewS, reduceIte, reduceCtorEq, Nat.reduceAdd, String.reduceBEq, Int.reducePow, Int.reduceLT, Int.reduceLE, Nat.reduceLT, Nat.reduceLeDiff, Int.reduceToNat, List.getElem?_cons_zero, List.getElem?_cons_succ, List.set_cons_zero, List.set_cons_succ, List.length_cons, List.length_nil, if_true, Option.map_some, if_false, forall_const, List.length_map, Option.some.injEq, exists_eq_left', exists_eq_left, List.any_cons, List.any_nil, beq_self_eq_true, Option.isSome_some, exists_eq, exists_eq', g2r, hix]
    rw [mapI, alloc_D, wp_some, q_sumF, wp_some]
    have hzz : ((cs.zip cols).map fun p => (atI p.1 p.2).getD 0).sum = sm := by rw [hzs]; rfl
    rw [List.map_id', hzz]
    have hsame : ∀ S, p_law_same [.d (.int sm), .d (.int sm)] S = some (.d (.bool true), S) := fun S => same_e (n := 0) (by simp only [Lk])
    (try simp only [st0, st1, st2, st3, st4, st5, st6, w_forC, w_forN, x_jZm, x_par3, kPar3_eq, x_iZx, zx_L, zx_T, zx_LT, zx_TL, w_gSubD, q_addJ, x_iDk, w_augS, w_aug, x_slT, q_dk, q_dt, w_dp, w_md, eVar, isT, tyN, isNo, gsN, wipeR, kSq, viewL, viewS, reduceIte, reduceCtorEq, Nat.reduceAdd, String.reduceBEq, Int.reducePow, Int.reduceLT, Int.reduceLE, Nat.reduceLT, Nat.reduceLeDiff, Int.reduceToNat, List.getElem?_cons_zero, List.getElem?_cons_succ, List.set_cons_zero, List.set_cons_succ, List.length_cons, List.length_nil, if_true, Option.map_some, if_false, forall_const, List.length_map, Option.some.injEq, exists_eq_left', exists_eq_left, List.any_cons, List.any_nil, beq_self_eq_true, Option.isSome_some, exists_eq, exists_eq', hsame])
    rw [w_seq, w_if]
    (try simp only [st0, st1, st2, st3, st4, st5, st6, w_forC, w_forN, x_jZm, x_par3, kPar3_eq, x_iZx, zx_L, zx_T, zx_LT, zx_TL, w_gSubD, q_addJ, x_iDk, w_augS, w_aug, x_slT, q_dk, q_dt, w_dp, w_md, eVar, isT, tyN, isNo, gsN, wipeR, kSq, viewL, viewS, reduceIte, reduceCtorEq, Nat.reduceAdd, String.reduceBEq, Int.reducePow, Int.reduceLT, Int.reduceLE, Nat.reduceLT, Nat.reduceLeDiff, Int.reduceToNat, List.getElem?_cons_zero, List.getElem?_cons_succ, List.set_cons_zero, List.set_cons_succ, List.length_cons, List.length_nil, if_true, Option.map_some, if_false, forall_const, List.length_map, Option.some.injEq, exists_eq_left', exists_eq_left, List.any_cons, List.any_nil, beq_self_eq_true, Option.isSome_some, exists_eq, exists_eq', it0, hless])
    have hst := shT k3' hTt
    rw [w_seq]
    (try simp only [st0, st1, st2, st3, st4, st5, st6, w_forC, w_forN, x_jZm, x_par3, kPar3_eq, x_iZx, zx_L, zx_T, zx_LT, zx_TL, w_gSubD, q_addJ, x_iDk, w_augS, w_aug, x_slT, q_dk, q_dt, w_dp, w_md, eVar, isT, tyN, isNo, gsN, wipeR, kSq, viewL, viewS, reduceIte, reduceCtorEq, Nat.reduceAdd, String.reduceBEq, Int.reducePow, Int.reduceLT, Int.reduceLE, Nat.reduceLT, Nat.reduceLeDiff, Int.reduceToNat, List.getElem?_cons_zero, List.getElem?_cons_succ, List.set_cons_zero, List.set_cons_succ, List.length_cons, List.length_nil, if_true, Option.map_some, if_false, forall_const, List.length_map, Option.some.injEq, exists_eq_left', exists_eq_left, List.any_cons, List.any_nil, beq_self_eq_true, Option.isSome_some, exists_eq, exists_eq', hst])
    rw [w_seq]
    have hap : gAppend (.c j) [.d (.int 0)] S3 = some (.d .none, S3.set j (tc PyData.int (cols ++ [0]))) := tc_app (v := PyData.int) (y := 0) k3' (by omega)
    (try simp only [st0, st1, st2, st3, st4, st5, st6, w_forC, w_forN, x_jZm, x_par3, kPar3_eq, x_iZx, zx_L, zx_T, zx_LT, zx_TL, w_gSubD, q_addJ, x_iDk, w_augS, w_aug, x_slT, q_dk, q_dt, w_dp, w_md, eVar, isT, tyN, isNo, gsN, wipeR, kSq, viewL, viewS, reduceIte, reduceCtorEq, Nat.reduceAdd, String.reduceBEq, Int.reducePow, Int.reduceLT, Int.reduceLE, Nat.reduceLT, Nat.reduceLeDiff, Int.reduceToNat, List.getElem?_cons_zero, List.getElem?_cons_succ, List.set_cons_zero, List.set_cons_succ, List.length_cons, List.length_nil, if_true, Option.map_some, if_false, forall_const, List.length_map, Option.some.injEq, exists_eq_left', exists_eq_left, List.any_cons, List.any_nil, beq_self_eq_true, Option.isSome_some, exists_eq, exists_eq', hap])
    refine ⟨fun _ => ?_, by rw [k3']; rfl⟩
    have k4 : (S3.set j (tc PyData.int (cols ++ [0])))[j]? = some (tc PyData.int (cols ++ [0])) := get_set k3'
    rw [tc_frz k4, wp_some]
    have hbl := hb.lt
    have g5 := (g3.setN hjl hbl (tc PyData.int (cols ++ [0]))).setN hjl hbl (.frz (.list ((cols ++ [0]).map PyData.int)))
    generalize (S3.set j (tc PyData.int (cols ++ [0]))).set j (.frz (.list ((cols ++ [0]).map PyData.int))) = S5 at g5
    rw [w_if]
    (try simp only [st0, st1, st2, st3, st4, st5, st6, w_forC, w_forN, x_jZm, x_par3, kPar3_eq, x_iZx, zx_L, zx_T, zx_LT, zx_TL, w_gSubD, q_addJ, x_iDk, w_augS, w_aug, x_slT, q_dk, q_dt, w_dp, w_md, eVar, isT, tyN, isNo, gsN, wipeR, kSq, viewL, viewS, reduceIte, reduceCtorEq, Nat.reduceAdd, String.reduceBEq, Int.reducePow, Int.reduceLT, Int.reduceLE, Nat.reduceLT, Nat.reduceLeDiff, Int.reduceToNat, List.getElem?_cons_zero, List.getElem?_cons_succ, List.set_cons_zero, List.set_cons_succ, List.length_cons, List.length_nil, if_true, Option.map_some, if_false, forall_const, List.length_map, Option.some.injEq, exists_eq_left', exists_eq_left, List.any_cons, List.any_nil, beq_self_eq_true, Option.isSome_some, exists_eq, exists_eq'])
    refine hagain ?_
    have hst2 := shT (k3 S5) hTt
    have g6 := g5.ex (hex S5)
    generalize mtS S5 cs n sq [tc PyData.int cols] = S6 at hst2 g6
    (try simp only [st0, st1, st2, st3, st4, st5, st6, w_forC, w_forN, x_jZm, x_par3, kPar3_eq, x_iZx, zx_L, zx_T, zx_LT, zx_TL, w_gSubD, q_addJ, x_iDk, w_augS, w_aug, x_slT, q_dk, q_dt, w_dp, w_md, eVar, isT, tyN, isNo, gsN, wipeR, kSq, viewL, viewS, reduceIte, reduceCtorEq, Nat.reduceAdd, String.reduceBEq, Int.reducePow, Int.reduceLT, Int.reduceLE, Nat.reduceLT, Nat.reduceLeDiff, Int.reduceToNat, List.getElem?_cons_zero, List.getElem?_cons_succ, List.set_cons_zero, List.set_cons_succ, List.length_cons, List.length_nil, if_true, Option.map_some, if_false, forall_const, List.length_map, Option.some.injEq, exists_eq_left', exists_eq_left, List.any_cons, List.any_nil, beq_self_eq_true, Option.isSome_some, exists_eq, exists_eq', hst2, hsc])
    rw [hI]
    exact ⟨_, _, _, _, _, _, _, _, rfl, g6.mono (by omega)⟩
  · intro ρ S2 h
    rw [hI, rng_len] at h
    obtain ⟨u1, u2, u3, u4, u5, u6, u7, u8, rfl, g2⟩ := h
    (try simp only [st0, st1, st2, st3, st4, st5, st6, w_seq, w_if, w_forC, w_forN, x_jZm, x_par3, kPar3_eq, x_iZx, zx_L, zx_T, zx_LT, zx_TL, w_gSubD, q_addJ, x_iDk, w_augS, w_aug, x_slT, q_dk, q_dt, w_dp, w_md, eVar, isT, tyN, isNo, gsN, wipeR, kSq, viewL, viewS, reduceIte, reduceCtorEq, Nat.reduceAdd, String.reduceBEq, Int.reducePow, Int.reduceLT, Int.reduceLE, Nat.reduceLT, Nat.reduceLeDiff, Int.reduceToNat, List.getElem?_cons_zero, List.getElem?_cons_succ, List.set_cons_zero, List.set_cons_succ, List.length_cons, List.length_nil, if_true, Option.map_some, if_false, forall_const, List.length_map, Option.some.injEq, exists_eq_left', exists_eq_left, List.any_cons, List.any_nil, beq_self_eq_true, Option.isSome_some, exists_eq, exists_eq'])
    exact g2.mono (by omega)

end QW

namespace QW
open PySem PySem.Spec PyProof.Rows L2 QL
theorem law_true : ∀ ns : List Int, ns.length ≤ 63 → ∃ S', p_law [.s ns] [] = some (.d (.bool true), S') := by
  intro ns _
  have key : wp (p_law [.s ns] []) fun r S' => ∃ x, r = .d x ∧ S' = [] ∧ x = .bool true := by
    unfold p_law
    refine w_fnP ?_
    show wpS (f_law [some (.s ns), none, none] []) _
    unfold f_law
    (try simp only [st0, st1, st2, st3, st4, st5, st6, w_forC, w_forN, x_jZm, x_par3, kPar3_eq, x_iZx, zx_L, zx_T, zx_LT, zx_TL, w_gSubD, q_addJ, x_iDk, w_augS, w_aug, x_slT, q_dk, q_dt, w_dp, w_md, eVar, isT, tyN, isNo, gsN, wipeR, kSq, viewL, viewS, reduceIte, reduceCtorEq, Nat.reduceAdd, String.reduceBEq, Int.reducePow, Int.reduceLT, Int.reduceLE, Nat.reduceLT, Nat.reduceLeDiff, Int.reduceToNat, List.getElem?_cons_zero, List.getElem?_cons_succ, List.set_cons_zero, List.set_cons_succ, List.length_cons, List.length_nil, if_true, Option.map_some, if_false, forall_const, List.length_map, Option.some.injEq, exists_eq_left', exists_eq_left, List.any_cons, List.any_nil, beq_self_eq_true, Option.isSome_some, exists_eq, exists_eq']); rw [w_seq]; (try simp only [st0, st1, st2, st3, st4, st5, st6, w_forC, w_forN, x_jZm, x_par3, kPar3_eq, x_iZx, zx_L, zx_T, zx_LT, zx_TL, w_gSubD, q_addJ, x_iDk, w_augS, w_aug, x_slT, q_dk, q_dt, w_dp, w_md, eVar, isT, tyN, isNo, gsN, wipeR, kSq, viewL, viewS, reduceIte, reduceCtorEq, Nat.reduceAdd, String.reduceBEq, Int.reducePow, Int.reduceLT, Int.reduceLE, Nat.reduceLT, Nat.reduceLeDiff, Int.reduceToNat, List.getElem?_cons_zero, List.getElem?_cons_succ, List.set_cons_zero, List.set_cons_succ, List.length_cons, List.length_nil, if_true, Option.map_some, if_false, forall_const, List.length_map, Option.some.injEq, exists_eq_left', exists_eq_left, List.any_cons, List.any_nil, beq_self_eq_true, Option.isSome_some, exists_eq, exists_eq'])
    refine wp_mono (folded_ok (by decide) (by decide)) ?_
    rintro r S1 ⟨_, rfl, rfl, ms, rfl, hl⟩
    have hl : ms.length ≤ 100 := by omega
    simp only [st0, st1, st2, st3, st4, st5, st6, w_seq, w_if, w_forC, w_forN, x_jZm, x_par3, kPar3_eq, x_iZx, zx_L, zx_T, zx_LT, zx_TL, w_gSubD, q_addJ, x_iDk, w_augS, w_aug, x_slT, q_dk, q_dt, w_dp, w_md, eVar, isT, tyN, isNo, gsN, wipeR, kSq, viewL, viewS, reduceIte, reduceCtorEq, Nat.reduceAdd, String.reduceBEq, Int.reducePow, Int.reduceLT, Int.reduceLE, Nat.reduceLT, Nat.reduceLeDiff, Int.reduceToNat, List.getElem?_cons_zero, List.getElem?_cons_succ, List.set_cons_zero, List.set_cons_succ, List.length_cons, List.length_nil, if_true, Option.map_some, if_false, forall_const, List.length_map, Option.some.injEq, exists_eq_left', exists_eq_left, List.any_cons, List.any_nil, beq_self_eq_true, Option.isSome_some, exists_eq, exists_eq']
    refine ⟨by split <;> omega, by split <;> omega, ?_⟩
    obtain ⟨I, hI⟩ : ∃ X : Nat → List Val → Sto → Prop, X = fun (i : Nat) (acc : List Val) (S' : Sto) => acc = (List.replicate i (PyData.bool true)).map Val.d := ⟨_, rfl⟩
    refine w_lcL I (by rw [hI]; rfl) ?_ ?_
    · intro i d acc S2 hd h
      obtain ⟨hi, rfl⟩ := rng_get hd
      have hi : i < 101 := by split at hi <;> omega
      simp only [st0, st1, st2, st3, st4, st5, st6, w_seq, w_if, w_forC, w_forN, x_jZm, x_par3, kPar3_eq, x_iZx, zx_L, zx_T, zx_LT, zx_TL, w_gSubD, q_addJ, x_iDk, w_augS, w_aug, x_slT, q_dk, q_dt, w_dp, w_md, eVar, isT, tyN, isNo, gsN, wipeR, kSq, viewL, viewS, reduceIte, reduceCtorEq, Nat.reduceAdd, String.reduceBEq, Int.reducePow, Int.reduceLT, Int.reduceLE, Nat.reduceLT, Nat.reduceLeDiff, Int.reduceToNat, List.getElem?_cons_zero, List.getElem?_cons_succ, List.set_cons_zero, List.set_cons_succ, List.length_cons, List.length_nil, if_true, Option.map_some, if_false, forall_const, List.length_map, Option.some.injEq, exists_eq_left', exists_eq_left, List.any_cons, List.any_nil, beq_self_eq_true, Option.isSome_some, exists_eq, exists_eq', fYes]
      refine wp_mono (box_ok (by omega) (by omega)) ?_
      rintro r S3 ⟨rfl, ds, e, hb⟩
      refine wp_mono (right_ok hb (by decide)) ?_
      rintro r S4 ⟨_, rfl, g, rfl⟩
      rw [hI] at h ⊢
      simp only [h, List.replicate_succ', List.map_append]
      rfl
    · intro acc S2 h
      rw [hI] at h
      simp only [h]
      rw [alloc_D, wp_some]
      rw [q_allT (fun d hd => (List.mem_replicate.mp hd).2), wp_some]
      exact ⟨_, rfl, ⟨Nat.zero_le _, fun j hj => absurd hj (Nat.not_lt_zero _)⟩, rfl⟩
  obtain ⟨r, S', e, x, rfl, _, rfl⟩ := key
  exact ⟨S', e⟩

end QW

open PySem PySem.W PyProof.Rows
set_option maxHeartbeats 0 in
theorem PySem.Challenge.cw_pickboard_k31_matched_least_holds : PySem.Challenge.rw_pickboard_k31_matched_least.Holds := by
  w_on; o_law; k_head; (case hw => w_witness2)
  k_fill
  refine QL.walk_q (l := PySem.Challenge.rw_pickboard_k31_matched_least) (k := 15) (φ := QW.p_law) rfl rfl ⟨rfl, by decide, by decide⟩ (fun w h Y => PySem.W.kIn_of Y) ?D QW.law_true
  case D =>
    intro w mg h KX G base _ _
    refine' QW.all_ok KX G ?qq_aC_Matching ?qq_pg_Matching ?qq_hd_Matching ?qq_po_Matching ?qq_sa_Matching ?qq_mk_Matching ?qq_kc_Matching ?qq_nf_Matching_costs ?qq_nf_Matching_many ?qq_nf_Matching_row_numbers ?qq_nf_Matching_column_numbers ?qq_nf_Matching_owners ?qq_g0 ?qq_i0 ?qq_l0 ?qq_c0 ?qq_k0 ?qq_g1 ?qq_i1 ?qq_l1 ?qq_c1 ?qq_k1 ?qq_g2 ?qq_i2 ?qq_l2 ?qq_c2 ?qq_k2 ?qq_g3 ?qq_i3 ?qq_l3 ?qq_c3 ?qq_k3 ?qq_g4 ?qq_i4 ?qq_l4 ?qq_c4 ?qq_k4 ?qq_g5 ?qq_i5 ?qq_l5 ?qq_c5 ?qq_k5 ?qq_g6 ?qq_i6 ?qq_l6 ?qq_c6 ?qq_k6 ?qq_g7 ?qq_l7 ?qq_c7 ?qq_k7 ?qq_g8 ?qq_l8 ?qq_c8 ?qq_k8 ?qq_g9 ?qq_l9 ?qq_c9 ?qq_k9 ?qq_g10 ?qq_l10 ?qq_c10 ?qq_k10 ?qq_g11 ?qq_l11 ?qq_c11 ?qq_k11 ?qq_g12 ?qq_l12 ?qq_c12 ?qq_k12 ?qq_g13 ?qq_l13 ?qq_c13 ?qq_k13 ?qq_g14 ?qq_l14 ?qq_c14 ?qq_k14 ?qq_g15 ?qq_l15 ?qq_c15 ?qq_k15 ?qq_g16 ?qq_l16 ?qq_c16 ?qq_k16 ?qq_g17 ?qq_l17 ?qq_c17 ?qq_k17 ?qq_g18 ?qq_l18 ?qq_c18 ?qq_k18 ?qq_g19 ?qq_l19 ?qq_c19 ?qq_k19 ?qq_z_abs ?qq_z_all ?qq_z_bool ?qq_z_divmod ?qq_z_enumerate ?qq_z_int ?qq_z_isinstance ?qq_z_len ?qq_z_list ?qq_z_max ?qq_z_min ?qq_z_range ?qq_z_set ?qq_z_str ?qq_z_sum ?qq_z_tuple ?qq_z_zip
    (case qq_aC_Matching => k_is)
    (case qq_pg_Matching => k_is)
    (case qq_hd_Matching => k_is)
    (case qq_po_Matching => k_is)
    (case qq_sa_Matching => k_is)
    (case qq_mk_Matching => k_is)
    (case qq_kc_Matching => k_is)
    (case qq_nf_Matching_costs => k_is)
    (case qq_nf_Matching_many => k_is)
    (case qq_nf_Matching_row_numbers => k_is)
    (case qq_nf_Matching_column_numbers => k_is)
    (case qq_nf_Matching_owners => k_is)
    (case qq_g0 => k_is)
    (case qq_i0 => k_is)
    (case qq_l0 => k_is)
    (case qq_c0 => k_is)
    (case qq_k0 => k_is)
    (case qq_g1 => k_is)
    (case qq_i1 => k_is)
    (case qq_l1 => k_is)
    (case qq_c1 => k_is)
    (case qq_k1 => k_is)
    (case qq_g2 => k_is)
    (case qq_i2 => k_is)
    (case qq_l2 => k_is)
    (case qq_c2 => k_is)
    (case qq_k2 => k_is)
    (case qq_g3 => k_is)
    (case qq_i3 => k_is)
    (case qq_l3 => k_is)
    (case qq_c3 => k_is)
    (case qq_k3 => k_is)
    (case qq_g4 => k_is)
    (case qq_i4 => k_is)
    (case qq_l4 => k_is)
    (case qq_c4 => k_is)
    (case qq_k4 => k_is)
    (case qq_g5 => k_is)
    (case qq_i5 => k_is)
    (case qq_l5 => k_is)
    (case qq_c5 => k_is)
    (case qq_k5 => k_is)
    (case qq_g6 => k_is)
    (case qq_i6 => k_is)
    (case qq_l6 => k_is)
    (case qq_c6 => k_is)
    (case qq_k6 => k_is)
    (case qq_g7 => k_is)
    (case qq_l7 => k_is)
    (case qq_c7 => k_is)
    (case qq_k7 => k_is)
    (case qq_g8 => k_is)
    (case qq_l8 => k_is)
    (case qq_c8 => k_is)
    (case qq_k8 => k_is)
    (case qq_g9 => k_is)
    (case qq_l9 => k_is)
    (case qq_c9 => k_is)
    (case qq_k9 => k_is)
    (case qq_g10 => k_is)
    (case qq_l10 => k_is)
    (case qq_c10 => k_is)
    (case qq_k10 => k_is)
    (case qq_g11 => k_is)
    (case qq_l11 => k_is)
    (case qq_c11 => k_is)
    (case qq_k11 => k_is)
    (case qq_g12 => k_is)
    (case qq_l12 => k_is)
    (case qq_c12 => k_is)
    (case qq_k12 => k_is)
    (case qq_g13 => k_is)
    (case qq_l13 => k_is)
    (case qq_c13 => k_is)
    (case qq_k13 => k_is)
    (case qq_g14 => k_is)
    (case qq_l14 => k_is)
    (case qq_c14 => k_is)
    (case qq_k14 => k_is)
    (case qq_g15 => k_is)
    (case qq_l15 => k_is)
    (case qq_c15 => k_is)
    (case qq_k15 => k_is)
    (case qq_g16 => k_is)
    (case qq_l16 => k_is)
    (case qq_c16 => k_is)
    (case qq_k16 => k_is)
    (case qq_g17 => k_is)
    (case qq_l17 => k_is)
    (case qq_c17 => k_is)
    (case qq_k17 => k_is)
    (case qq_g18 => k_is)
    (case qq_l18 => k_is)
    (case qq_c18 => k_is)
    (case qq_k18 => k_is)
    (case qq_g19 => k_is)
    (case qq_l19 => k_is)
    (case qq_c19 => k_is)
    (case qq_k19 => k_is)
    (case qq_z_abs => k_is)
    (case qq_z_all => k_is)
    (case qq_z_bool => k_is)
    (case qq_z_divmod => k_is)
    (case qq_z_enumerate => k_is)
    (case qq_z_int => k_is)
    (case qq_z_isinstance => k_is)
    (case qq_z_len => k_is)
    (case qq_z_list => k_is)
    (case qq_z_max => k_is)
    (case qq_z_min => k_is)
    (case qq_z_range => k_is)
    (case qq_z_set => k_is)
    (case qq_z_str => k_is)
    (case qq_z_sum => k_is)
    (case qq_z_tuple => k_is)
    (case qq_z_zip => k_is)
