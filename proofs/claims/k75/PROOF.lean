import PyProof.Rows.All
import HandS.ForMost
import HandS.Walk
import HandS.ForExc
import HandS.Wide
import HandS.CallSlots
import HandS.ExcInit
import HandS.ExcField
import HandS.SuiteRaise
import HandS.TryMany
import HandS.TupAny
import HandS.StrMore
import HandS.IsInst
import HandS.SortInts
import HandS.Rev
import HandS.Replace
import PyProof.StrLawsFirst
import PyProof.StrLawsLast
import KE.GoesMore
import KE.GoesEnum
import Wide.All
import OpenK.AllK
import Wide.FinOn
import PySem.Challenge.RW_trunkcall_k75_long_log_texts
set_option Elab.async false
set_option linter.all false
set_option maxRecDepth 100000
set_option maxHeartbeats 4000000
namespace Py
open PySem PySem.Spec PyProof.Rows L2

/-! ## plain data and plain heaps -/
inductive D where
  | non | bl (b : Bool) | int (i : Int) | str (s : List Nat) | tup (xs : List D) | ref (n : Nat) | adr (a : Addr) | ty (n : String)
  deriving Inhabited

inductive Cell where
  /-- a list that may change -/
  | lst (xs : List D)
  /-- a list that is only read (the script) -/
  | scr (xs : List D)
  deriving Inhabited
abbrev HH := List Cell

/-- what a step gives: a value and the heap; an own exception (class, attributes) and the heap; no meaning -/
inductive R (α : Type) where
  | ok (a : α) (h : HH)
  | ex (c : Str) (fs : List (Str × D)) (h : HH)
  | bad
@[simp] def R.bind {α β : Type} (r : R α) (k : α → HH → R β) : R β := match r with
  | .ok a h => k a h
  | .ex c fs h => .ex c fs h
  | .bad => .bad

abbrev Rho := List (Option D)
/-- what a statement gives -/
inductive O where
  | nx (ρ : Rho) (h : HH)
  | rt (d : D) (h : HH)
  | bk (ρ : Rho) (h : HH)
  | ct (ρ : Rho) (h : HH)
  | ex (c : Str) (fs : List (Str × D)) (ρ : Rho) (h : HH)
  | bad

abbrev ES := Rho → HH → R D
abbrev AS := Rho → HH → R (List D)
abbrev TS' := Rho → HH → R Bool
abbrev SS := Rho → HH → O

/-! ## how plain data stand in the model's heap -/
section
variable (K : PySem.W.Frag) (m : List Addr) (H : Hp)
mutual
def RepD : D → V → Prop
  | .non, v => v = .non
  | .bl b, v => v = .bl b
  | .int i, v => v = .int i
  | .str s, v => v = .str ⟨s.toArray⟩
  | .ty n, v => v = .ty n
  | .adr a, v => v = .ref a
  | .ref n, v => ∃ a, m[n]? = some a ∧ v = .ref a
  | .tup ds, v => ∃ a vs, v = .ref a ∧ SqT K H a vs ∧ RepL ds vs
def RepL : List D → List V → Prop
  | [], vs => vs = []
  | d :: ds, vs => ∃ v ws, vs = v :: ws ∧ RepD d v ∧ RepL ds ws
end
end

/-- tuples and known lists stay -/
structure Keeps (H H' : Hp) : Prop where
  tup : ∀ a xs, H a = some (.tup xs) → H' a = some (.tup xs)
  frT : ∀ a o xs, H a = some (.frz o (.tup xs)) → H' a = some (.frz o (.tup xs))
  frL : ∀ a o xs, H a = some (.frz o (.lst xs)) → H' a = some (.frz o (.lst xs))
theorem Keeps.refl (H : Hp) : Keeps H H := ⟨fun _ _ h => h, fun _ _ _ h => h, fun _ _ _ h => h⟩
theorem Keeps.trans {H H1 H2 : Hp} (a : Keeps H H1) (b : Keeps H1 H2) : Keeps H H2 :=
  ⟨fun c xs h => b.tup c xs (a.tup c xs h), fun c o xs h => b.frT c o xs (a.frT c o xs h), fun c o xs h => b.frL c o xs (a.frL c o xs h)⟩
theorem Keeps.sqT {K : PySem.W.Frag} {H H' : Hp} {a : Addr} {xs : List V} (k : Keeps H H') (h : SqT K H a xs) : SqT K H' a xs := by
  rcases h with (h | ⟨o, h⟩) | h
  · exact .inl (.inl (k.tup _ _ h))
  · exact .inl (.inr ⟨o, k.frT _ _ _ h⟩)
  · exact .inr h
/-- a new object -/
theorem Keeps.new {H : Hp} {p : Addr} {o : HO} (h : H p = none) : Keeps H (upd H p o) :=
  ⟨fun _ _ e => by rw [upd_ne (ne_of_none e h)]; exact e, fun _ _ _ e => by rw [upd_ne (ne_of_none e h)]; exact e, fun _ _ _ e => by rw [upd_ne (ne_of_none e h)]; exact e⟩
/-- an object that changes is none of these -/
theorem Keeps.put {H : Hp} {p : Addr} {o u : HO} (h : H p = some u) (h1 : ∀ xs, u ≠ .tup xs) (h2 : ∀ o' w, u ≠ .frz o' w) : Keeps H (upd H p o) := by
  refine ⟨fun a xs e => ?_, fun a o' xs e => ?_, fun a o' xs e => ?_⟩ <;> refine (upd_ne fun z => ?_).trans e
  · subst z; rw [h] at e; exact h1 _ (Option.some.inj e)
  · subst z; rw [h] at e; exact h2 _ _ (Option.some.inj e)
  · subst z; rw [h] at e; exact h2 _ _ (Option.some.inj e)

mutual
theorem RepD.mono {K : PySem.W.Frag} {m m' : List Addr} {H H' : Hp} (hm : m <+: m') (k : Keeps H H') : ∀ {d : D} {v : V}, RepD K m H d v → RepD K m' H' d v
  | .non, _, h => h
  | .bl _, _, h => h
  | .int _, _, h => h
  | .str _, _, h => h
  | .ty _, _, h => h
  | .adr _, _, h => h
  | .ref n, v, h => by
    obtain ⟨a, e, q⟩ := h
    obtain ⟨t, rfl⟩ := hm
    obtain ⟨hn, _⟩ := List.getElem?_eq_some_iff.mp e
    exact ⟨a, by rw [List.getElem?_append_left hn]; exact e, q⟩
  | .tup ds, v, h => by
    obtain ⟨a, vs, e, q, r⟩ := h
    exact ⟨a, vs, e, k.sqT q, RepL.mono hm k r⟩
theorem RepL.mono {K : PySem.W.Frag} {m m' : List Addr} {H H' : Hp} (hm : m <+: m') (k : Keeps H H') : ∀ {ds : List D} {vs : List V}, RepL K m H ds vs → RepL K m' H' ds vs
  | [], _, h => h
  | d :: ds, vs, h => by
    obtain ⟨v, ws, e, r, t⟩ := h
    exact ⟨v, ws, e, RepD.mono hm k r, RepL.mono hm k t⟩
end

/-! ### lists of data -/
section
variable {K : PySem.W.Frag} {m : List Addr} {H : Hp}
theorem RepL.length : ∀ {ds : List D} {vs : List V}, RepL K m H ds vs → vs.length = ds.length
  | [], _, h => by
    have e : _ = [] := h
    rw [e]
    rfl
  | d :: ds, vs, h => by
    obtain ⟨v, ws, e, r, t⟩ := h
    rw [e, List.length_cons, List.length_cons, RepL.length t]
theorem RepL.get : ∀ {ds : List D} {vs : List V} {i : Nat} {d : D}, RepL K m H ds vs → ds[i]? = some d → ∃ v, vs[i]? = some v ∧ RepD K m H d v
  | [], _, _, _, _, e => by simp at e
  | d :: ds, vs, 0, x, h, e => by
    obtain ⟨v, ws, q, r, t⟩ := h
    obtain rfl : d = x := by simpa using e
    exact ⟨v, by rw [q]; rfl, r⟩
  | d :: ds, vs, i + 1, x, h, e => by
    obtain ⟨v, ws, q, r, t⟩ := h
    obtain ⟨w, e1, e2⟩ := RepL.get (i := i) (d := x) t (by simpa using e)
    exact ⟨w, by rw [q]; simpa using e1, e2⟩
theorem RepL.get' {ds : List D} {vs : List V} {i : Nat} {v : V} (h : RepL K m H ds vs) (e : vs[i]? = some v) : ∃ d, ds[i]? = some d ∧ RepD K m H d v := by
  have hl := h.length
  obtain ⟨hi, _⟩ := List.getElem?_eq_some_iff.mp e
  have hi' : i < ds.length := by omega
  obtain ⟨w, e1, e2⟩ := h.get (List.getElem?_eq_getElem hi')
  rw [e] at e1
  cases e1
  exact ⟨_, List.getElem?_eq_getElem hi', e2⟩
theorem RepL.append : ∀ {ds es : List D} {vs ws : List V}, RepL K m H ds vs → RepL K m H es ws → RepL K m H (ds ++ es) (vs ++ ws)
  | [], _, vs, ws, h, h' => by
    have e : vs = [] := h
    rw [e]
    exact h'
  | d :: ds, es, vs, ws, h, h' => by
    obtain ⟨v, us, e, r, t⟩ := h
    exact ⟨v, us ++ ws, by rw [e]; rfl, r, RepL.append t h'⟩
theorem RepL.take : ∀ {ds : List D} {vs : List V} (n : Nat), RepL K m H ds vs → RepL K m H (ds.take n) (vs.take n)
  | [], vs, n, h => by
    have e : vs = [] := h
    rw [e, List.take_nil, List.take_nil]
    rfl
  | d :: ds, vs, 0, h => rfl
  | d :: ds, vs, n + 1, h => by
    obtain ⟨v, us, e, r, t⟩ := h
    exact ⟨v, us.take n, by rw [e]; rfl, r, RepL.take n t⟩
theorem RepL.drop : ∀ {ds : List D} {vs : List V} (n : Nat), RepL K m H ds vs → RepL K m H (ds.drop n) (vs.drop n)
  | [], vs, n, h => by
    have e : vs = [] := h
    rw [e, List.drop_nil, List.drop_nil]
    rfl
  | d :: ds, vs, 0, h => h
  | d :: ds, vs, n + 1, h => by
    obtain ⟨v, us, e, r, t⟩ := h
    rw [e]
    exact RepL.drop n t
theorem RepL.set : ∀ {ds : List D} {vs : List V} (n : Nat) {d : D} {v : V}, RepL K m H ds vs → RepD K m H d v → RepL K m H (ds.set n d) (vs.set n v)
  | [], vs, n, _, _, h, _ => by
    have e : vs = [] := h
    rw [e]
    rfl
  | d :: ds, vs, 0, x, w, h, hx => by
    obtain ⟨v, us, e, r, t⟩ := h
    exact ⟨w, us, by rw [e]; rfl, hx, t⟩
  | d :: ds, vs, n + 1, x, w, h, hx => by
    obtain ⟨v, us, e, r, t⟩ := h
    exact ⟨v, us.set n w, by rw [e]; rfl, r, RepL.set n t hx⟩
theorem RepL.one {d : D} {v : V} (h : RepD K m H d v) : RepL K m H [d] [v] := ⟨v, [], rfl, h, rfl⟩
theorem RepL.two {d e : D} {v w : V} (h : RepD K m H d v) (h' : RepD K m H e w) : RepL K m H [d, e] [v, w] := ⟨v, [w], rfl, h, w, [], rfl, h', rfl⟩
theorem RepL.ints : ∀ ns : List Int, RepL K m H (ns.map D.int) (ns.map V.int)
  | [] => rfl
  | n :: ns => ⟨.int n, ns.map V.int, rfl, rfl, RepL.ints ns⟩
theorem RepL.toInts : ∀ {ns : List Int} {vs : List V}, RepL K m H (ns.map D.int) vs → vs = ns.map V.int
  | [], vs, h => h
  | n :: ns, vs, h => by
    obtain ⟨v, us, e, r, t⟩ := h
    have r' : v = .int n := r
    rw [e, r', RepL.toInts t]
    rfl
theorem RepL.flat_rep : ∀ (k : Nat) {ds : List D} {vs : List V}, RepL K m H ds vs → RepL K m H (List.replicate k ds).flatten (List.replicate k vs).flatten
  | 0, _, _, _ => rfl
  | k + 1, ds, vs, h => by
    rw [List.replicate_succ, List.replicate_succ, List.flatten_cons, List.flatten_cons]
    exact h.append (RepL.flat_rep k h)
theorem RepL.reverse : ∀ {ds : List D} {vs : List V}, RepL K m H ds vs → RepL K m H ds.reverse vs.reverse
  | [], vs, h => by
    have e : vs = [] := h
    rw [e]
    rfl
  | d :: ds, vs, h => by
    obtain ⟨v, us, e, r, t⟩ := h
    rw [e, List.reverse_cons, List.reverse_cons]
    exact (RepL.reverse t).append (.one r)
end

/-- attributes -/
def RepF (K : PySem.W.Frag) (m : List Addr) (H : Hp) : List (Str × D) → List (Str × V) → Prop
  | [], vs => vs = []
  | (f, d) :: r, vs => ∃ v ws, vs = (f, v) :: ws ∧ RepD K m H d v ∧ RepF K m H r ws
theorem RepF.mono {K : PySem.W.Frag} {m m' : List Addr} {H H' : Hp} (hm : m <+: m') (k : Keeps H H') : ∀ {fs : List (Str × D)} {vs : List (Str × V)}, RepF K m H fs vs → RepF K m' H' fs vs
  | [], _, h => h
  | (f, d) :: r, vs, h => by
    obtain ⟨v, ws, e, q, t⟩ := h
    exact ⟨v, ws, e, q.mono hm k, RepF.mono hm k t⟩
theorem RepF.lookup {K : PySem.W.Frag} {m : List Addr} {H : Hp} (g : Str) : ∀ {fs : List (Str × D)} {vs : List (Str × V)} {d : D}, RepF K m H fs vs → fs.lookup g = some d → ∃ v, vs.lookup g = some v ∧ RepD K m H d v
  | [], _, _, _, e => by simp at e
  | (f, d) :: r, vs, x, h, e => by
    obtain ⟨v, ws, q, h1, t⟩ := h
    subst q
    rw [List.lookup_cons] at e ⊢
    cases hb : (g == f) with
    | true =>
      rw [hb] at e
      cases e
      exact ⟨v, by simp, h1⟩
    | false =>
      rw [hb] at e
      exact RepF.lookup g t e

/-! ### the cells -/
/-- a list that is known and never written -/
def Scr (K : PySem.W.Frag) (H : Hp) (a : Addr) (vs : List V) : Prop := (∃ o, H a = some (.frz o (.lst vs))) ∨ SqL K (fun _ => none) a vs
theorem Scr.sql {K : PySem.W.Frag} {H : Hp} {a : Addr} {vs : List V} (h : Scr K H a vs) : SqL K H a vs := by
  rcases h with h | (h | ⟨o, h⟩) | h
  · exact .inl (.inr h)
  · exact absurd h (by simp)
  · exact absurd h (by simp)
  · exact .inr h
theorem Scr.mono {K : PySem.W.Frag} {H H' : Hp} {a : Addr} {vs : List V} (k : Keeps H H') (h : Scr K H a vs) : Scr K H' a vs := by
  rcases h with ⟨o, h⟩ | h
  · exact .inl ⟨o, k.frL _ _ _ h⟩
  · exact .inr h
def CellR (K : PySem.W.Frag) (m : List Addr) (H : Hp) (a : Addr) : Cell → Prop
  | .lst xs => ∃ vs, H a = some (.lst vs) ∧ RepL K m H xs vs
  | .scr xs => ∃ vs, Scr K H a vs ∧ RepL K m H xs vs
def Cell.mut : Cell → Bool
  | .lst _ => true
  | .scr _ => false
structure HeapR (K : PySem.W.Frag) (m : List Addr) (H : Hp) (h : HH) : Prop where
  len : m.length = h.length
  cell : ∀ (n : Nat) (a : Addr) (c : Cell), m[n]? = some a → h[n]? = some c → CellR K m H a c
  inj : ∀ (i j : Nat) (a : Addr) (c d : Cell), m[i]? = some a → m[j]? = some a → h[i]? = some c → h[j]? = some d → c.mut = true → d.mut = true → i = j
theorem CellR.some {K : PySem.W.Frag} {m : List Addr} {H : Hp} {a : Addr} {c : Cell} (h : CellR K m H a c) (hm : c.mut = true) : ∃ o, H a = some o := by
  cases c with
  | lst xs =>
    obtain ⟨vs, e, _⟩ := h
    exact ⟨_, e⟩
  | scr xs => cases hm
structure EnvR (K : PySem.W.Frag) (m : List Addr) (H : Hp) (σ : L2.St) (ρ : Rho) : Prop where
  len : σ.length = ρ.length
  get : ∀ (i : Nat) (d : D), ρ[i]? = some (some d) → ∃ v, σ[i]? = some (some v) ∧ RepD K m H d v
theorem EnvR.mono {K : PySem.W.Frag} {m m' : List Addr} {H H' : Hp} {σ : L2.St} {ρ : Rho} (hm : m <+: m') (k : Keeps H H') (e : EnvR K m H σ ρ) : EnvR K m' H' σ ρ :=
  ⟨e.len, fun i d h => let ⟨v, a, b⟩ := e.get i d h; ⟨v, a, b.mono hm k⟩⟩
theorem EnvR.set {K : PySem.W.Frag} {m : List Addr} {H : Hp} {σ : L2.St} {ρ : Rho} {d : D} {v : V} (e : EnvR K m H σ ρ) (i : Nat) (r : RepD K m H d v) : EnvR K m H (σ.set i (some v)) (ρ.set i (some d)) := by
  refine ⟨by rw [List.length_set, List.length_set, e.len], fun j x h => ?_⟩
  rw [List.getElem?_set] at h ⊢
  by_cases hj : i = j
  · rw [if_pos hj] at h ⊢
    rw [e.len]
    by_cases hi : j < ρ.length
    · rw [if_pos (by omega)] at h ⊢
      cases h
      exact ⟨v, rfl, r⟩
    · rw [if_neg (by omega)] at h
      cases h
  · rw [if_neg hj] at h ⊢
    exact e.get j x h
theorem EnvR.wipe {K : PySem.W.Frag} {m : List Addr} {H : Hp} {σ : L2.St} {ρ : Rho} (e : EnvR K m H σ ρ) (i : Nat) : EnvR K m H (σ.set i none) (ρ.set i none) := by
  refine ⟨by rw [List.length_set, List.length_set, e.len], fun j x h => ?_⟩
  rw [List.getElem?_set] at h ⊢
  by_cases hj : i = j
  · rw [if_pos hj] at h
    split at h <;> cases h
  · rw [if_neg hj] at h ⊢
    exact e.get j x h

/-- the cells when the model's heap grows or a foreign object changes -/
theorem CellR.stay {K : PySem.W.Frag} {m m' : List Addr} {H H' : Hp} {a : Addr} {c : Cell} (q : CellR K m H a c) (hm : m <+: m') (k : Keeps H H') (ho : c.mut = true → H' a = H a) : CellR K m' H' a c := by
  cases c with
  | lst xs =>
    obtain ⟨vs, e, t⟩ := q
    exact ⟨vs, (ho rfl).trans e, t.mono hm k⟩
  | scr xs =>
    obtain ⟨vs, e, t⟩ := q
    exact ⟨vs, e.mono k, t.mono hm k⟩
theorem HeapR.stay {K : PySem.W.Frag} {m : List Addr} {H H' : Hp} {h : HH} (r : HeapR K m H h) (k : Keeps H H') (ho : ∀ (n : Nat) (a : Addr) (c : Cell), m[n]? = some a → h[n]? = some c → c.mut = true → H' a = H a) : HeapR K m H' h :=
  ⟨r.len, fun n a c e1 e2 => (r.cell n a c e1 e2).stay (List.prefix_refl _) k (ho n a c e1 e2), r.inj⟩
theorem HeapR.tup {K : PySem.W.Frag} {m : List Addr} {H : Hp} {h : HH} {p : Addr} {o : HO} (r : HeapR K m H h) (hp : H p = none) : HeapR K m (upd H p o) h :=
  r.stay (.new hp) fun n a c e1 e2 hc => by
    obtain ⟨o, e⟩ := (r.cell n a c e1 e2).some hc
    exact upd_ne (ne_of_none e hp)
/-- a new cell -/
theorem HeapR.push {K : PySem.W.Frag} {m : List Addr} {H : Hp} {h : HH} {p : Addr} {o : HO} {c : Cell} (r : HeapR K m H h) (hp : H p = none) (hc : CellR K (m ++ [p]) (upd H p o) p c) :
    HeapR K (m ++ [p]) (upd H p o) (h ++ [c]) := by
  have k : Keeps H (upd H p o) := .new hp
  have pre : m <+: m ++ [p] := List.prefix_append _ _
  have old : ∀ {n : Nat} {a : Addr} {d : Cell}, (m ++ [p])[n]? = some a → (h ++ [c])[n]? = some d → (m[n]? = some a ∧ h[n]? = some d) ∨ (n = h.length ∧ a = p ∧ d = c) := fun {n a d} e1 e2 => by
    by_cases hn : n < m.length
    · rw [List.getElem?_append_left hn] at e1
      rw [List.getElem?_append_left (by rw [← r.len]; exact hn)] at e2
      exact .inl ⟨e1, e2⟩
    · rw [List.getElem?_append_right (by omega)] at e1
      rw [List.getElem?_append_right (by rw [← r.len]; omega)] at e2
      rw [r.len] at e1 hn
      cases hk : n - h.length with
      | zero =>
        rw [hk] at e1 e2
        exact .inr ⟨by omega, by simpa using e1.symm, by simpa using e2.symm⟩
      | succ k =>
        rw [hk] at e1
        simp at e1
  refine ⟨by simp [r.len], fun n a d e1 e2 => ?_, fun i j a d d' e1 e2 e3 e4 m1 m2 => ?_⟩
  · rcases old e1 e2 with ⟨q1, q2⟩ | ⟨_, rfl, rfl⟩
    · exact (r.cell n a d q1 q2).stay pre k fun hd => by
        obtain ⟨o, e⟩ := (r.cell n a d q1 q2).some hd
        exact upd_ne (ne_of_none e hp)
    · exact hc
  · rcases old e1 e3 with ⟨q1, q2⟩ | ⟨n1, r1, s1⟩ <;> rcases old e2 e4 with ⟨q3, q4⟩ | ⟨n2, r2, s2⟩
    · exact r.inj i j a d d' q1 q3 q2 q4 m1 m2
    · obtain ⟨o, e⟩ := (r.cell i a d q1 q2).some m1
      rw [r2, hp] at e
      cases e
    · obtain ⟨o, e⟩ := (r.cell j a d' q3 q4).some m2
      rw [r1, hp] at e
      cases e
    · omega
/-- a cell is changed -/
theorem HeapR.put {K : PySem.W.Frag} {m : List Addr} {H : Hp} {h : HH} {n : Nat} {p : Addr} {o : HO} {c c' : Cell} (r : HeapR K m H h) (hp : m[n]? = some p) (hc : h[n]? = some c) (hm : c.mut = true) (k : Keeps H (upd H p o))
    (hc' : CellR K m (upd H p o) p c') : HeapR K m (upd H p o) (h.set n c') := by
  have hn : n < h.length := (List.getElem?_eq_some_iff.mp hc).1
  have old : ∀ {j : Nat} {a : Addr} {d : Cell}, m[j]? = some a → (h.set n c')[j]? = some d → (j = n ∧ a = p ∧ d = c') ∨ (j ≠ n ∧ h[j]? = some d) := fun {j a d} e1 e2 => by
    by_cases hj : n = j
    · subst hj
      rw [List.getElem?_set_self hn] at e2
      rw [hp] at e1
      cases e1
      cases e2
      exact .inl ⟨rfl, rfl, rfl⟩
    · rw [List.getElem?_set_ne hj] at e2
      exact .inr ⟨fun z => hj z.symm, e2⟩
  refine ⟨by rw [List.length_set, r.len], fun j a d e1 e2 => ?_, fun i j a d d' e1 e2 e3 e4 m1 m2 => ?_⟩
  · rcases old e1 e2 with ⟨_, rfl, rfl⟩ | ⟨ne, q⟩
    · exact hc'
    · exact (r.cell j a d e1 q).stay (List.prefix_refl _) k fun hd => upd_ne fun z => ne (r.inj j n a d c e1 (z ▸ hp) q hc hd hm)
  · rcases old e1 e3 with ⟨n1, r1, s1⟩ | ⟨n1, q1⟩ <;> rcases old e2 e4 with ⟨n2, r2, s2⟩ | ⟨n2, q2⟩
    · omega
    · exact absurd (r.inj j n a d' c e2 (r1 ▸ hp) q2 hc m2 hm) n2
    · exact absurd (r.inj i n a d c e1 (r2 ▸ hp) q1 hc m1 hm) n1
    · exact r.inj i j a d d' e1 e2 q1 q2 m1 m2

end Py
set_option Elab.async false
set_option linter.all false
set_option maxRecDepth 100000
set_option maxHeartbeats 4000000
namespace Py
open PySem PySem.Spec PyProof.Rows L2

/-! ## readings by plain functions -/
section
variable (K : PySem.W.Frag) (mg : Str → Option Value)
/-- the outcome r, taken to the wishes Q (a value) and E (an exception) -/
def Fin {α β : Type} (Rp : List Addr → Hp → α → β → Prop) (m : List Addr) (H : Hp) (r : R α) (Q : β → Hp → Prop) (E : XK) : Prop := match r with
  | .ok a h' => ∀ m' H' b, m <+: m' → Keeps H H' → HeapR K m' H' h' → Rp m' H' a b → Q b H'
  | .ex c fs h' => ∀ m' H' C dx vfs, m <+: m' → Keeps H H' → HeapR K m' H' h' → mg c = some (.ref C) → H' dx = some (.xd vfs) → RepF K m' H' fs vfs → E (.ref C) (some dx) H'
  | .bad => False
/-- the same of a statement -/
def FinS (m : List Addr) (H : Hp) (r : O) (D : Ends) (W : WX) : Prop := match r with
  | .nx ρ' h' => ∀ m' H' σ', m <+: m' → Keeps H H' → HeapR K m' H' h' → EnvR K m' H' σ' ρ' → D.nx σ' H'
  | .bk ρ' h' => ∀ m' H' σ', m <+: m' → Keeps H H' → HeapR K m' H' h' → EnvR K m' H' σ' ρ' → D.bk σ' H'
  | .ct ρ' h' => ∀ m' H' σ', m <+: m' → Keeps H H' → HeapR K m' H' h' → EnvR K m' H' σ' ρ' → D.ct σ' H'
  | .rt d h' => ∀ m' H' v, m <+: m' → Keeps H H' → HeapR K m' H' h' → RepD K m' H' d v → D.rt v H'
  | .ex c fs ρ' h' => ∀ m' H' σ' C dx vfs, m <+: m' → Keeps H H' → HeapR K m' H' h' → EnvR K m' H' σ' ρ' → mg c = some (.ref C) → H' dx = some (.xd vfs) → RepF K m' H' fs vfs → W (.ref C) (some dx) σ' H'
  | .bad => False
end
section
variable {K : PySem.W.Frag} {mg : Str → Option Value}
theorem Fin.mono {α β : Type} {Rp : List Addr → Hp → α → β → Prop} {m m1 : List Addr} {H H1 : Hp} {r : R α} {Q : β → Hp → Prop} {E : XK} (hm : m <+: m1) (k : Keeps H H1) (f : Fin K mg Rp m H r Q E) : Fin K mg Rp m1 H1 r Q E := by
  cases r with
  | ok a h' => exact fun m' H' b p q => f m' H' b (hm.trans p) (k.trans q)
  | ex c fs h' => exact fun m' H' C dx vfs p q => f m' H' C dx vfs (hm.trans p) (k.trans q)
  | bad => exact f
theorem Fin.imp {α β γ δ : Type} {Rp : List Addr → Hp → α → β → Prop} {Rp' : List Addr → Hp → γ → δ → Prop} {m : List Addr} {H : Hp} {r : R α} {Q : β → Hp → Prop} {E E' : XK} (f : Fin K mg Rp m H r Q E) (g : α → β → γ) : True := trivial
theorem FinS.mono {m m1 : List Addr} {H H1 : Hp} {r : O} {D : Ends} {W : WX} (hm : m <+: m1) (k : Keeps H H1) (f : FinS K mg m H r D W) : FinS K mg m1 H1 r D W := by
  cases r with
  | nx ρ h' => exact fun m' H' b p q => f m' H' b (hm.trans p) (k.trans q)
  | bk ρ h' => exact fun m' H' b p q => f m' H' b (hm.trans p) (k.trans q)
  | ct ρ h' => exact fun m' H' b p q => f m' H' b (hm.trans p) (k.trans q)
  | rt d h' => exact fun m' H' b p q => f m' H' b (hm.trans p) (k.trans q)
  | ex c fs ρ h' => exact fun m' H' σ' C dx vfs p q => f m' H' σ' C dx vfs (hm.trans p) (k.trans q)
  | bad => exact f
end

/-- reading by a plain function f -/
def Rd (K : PySem.W.Frag) (mg : Str → Option Value) (W : WX) {α β : Type} (Rp : List Addr → Hp → α → β → Prop) (f : Rho → HH → R α) : L2.St → Hp → (β → Hp → Prop) → Prop := fun σ H Q =>
  ∃ m ρ h, HeapR K m H h ∧ EnvR K m H σ ρ ∧ Fin K mg Rp m H (f ρ h) Q fun c d H' => W c d σ H'
abbrev RdE (X : Cx) (W : WX) (f : ES) : TE := Rd X.K X.mg W (RepD X.K) f
abbrev RdA (X : Cx) (W : WX) (f : AS) : TA := Rd X.K X.mg W (RepL X.K) f
abbrev RdT (X : Cx) (W : WX) (f : TS') : TT := Rd X.K X.mg W (fun _ _ (a b : Bool) => a = b) f
def RdSt (K : PySem.W.Frag) (mg : Str → Option Value) (W : WX) (f : SS) : TS := fun D σ H => ∃ m ρ h, HeapR K m H h ∧ EnvR K m H σ ρ ∧ FinS K mg m H (f ρ h) D W
abbrev RdS (X : Cx) (W : WX) (f : SS) : TS := RdSt X.K X.mg W f

/-- the step: one part is run, the rest is to be read behind it -/
theorem Rd.seq {K : PySem.W.Frag} {mg : Str → Option Value} {W : WX} {α β γ δ : Type} {Rp : List Addr → Hp → α → β → Prop} {Rp' : List Addr → Hp → γ → δ → Prop} {fa : Rho → HH → R α} {k : α → HH → R γ} {m : List Addr} {ρ : Rho} {h : HH} {σ : L2.St} {H : Hp} {Q' : δ → Hp → Prop}
    (hh : HeapR K m H h) (he : EnvR K m H σ ρ) (fin : Fin K mg Rp' m H ((fa ρ h).bind k) Q' fun c d H' => W c d σ H') :
    Rd K mg W Rp fa σ H fun x H1 => ∃ m1 h1 a, m <+: m1 ∧ Keeps H H1 ∧ HeapR K m1 H1 h1 ∧ EnvR K m1 H1 σ ρ ∧ Rp m1 H1 a x ∧ Fin K mg Rp' m1 H1 (k a h1) Q' fun c d H' => W c d σ H' := by
  refine ⟨m, ρ, h, hh, he, ?_⟩
  cases e : fa ρ h with
  | ok a h' =>
    rw [e] at fin
    exact fun m' H' b p q r s => ⟨m', h', a, p, q, r, he.mono p q, s, Fin.mono p q fin⟩
  | ex c fs h' =>
    rw [e] at fin
    exact fin
  | bad =>
    rw [e] at fin
    exact fin
theorem Rd.imp {K : PySem.W.Frag} {mg : Str → Option Value} {W : WX} {α β : Type} {Rp : List Addr → Hp → α → β → Prop} {f : Rho → HH → R α} {σ : L2.St} {H : Hp} {Q Q' : β → Hp → Prop} (h : Rd K mg W Rp f σ H Q) (hq : ∀ b H', Q b H' → Q' b H') : Rd K mg W Rp f σ H Q' := by
  obtain ⟨m, ρ, h0, hh, he, fin⟩ := h
  refine ⟨m, ρ, h0, hh, he, ?_⟩
  cases e : f ρ h0 with
  | ok a h' => rw [e] at fin; exact fun m' H' b p q r s => hq _ _ (fin m' H' b p q r s)
  | ex c fs h' => rw [e] at fin; exact fin
  | bad => rw [e] at fin; exact fin
/-- .. in a statement -/
theorem Rd.seqS {K : PySem.W.Frag} {mg : Str → Option Value} {W : WX} {α β : Type} {Rp : List Addr → Hp → α → β → Prop} {fa : Rho → HH → R α} {k : α → HH → O} {m : List Addr} {ρ : Rho} {h : HH} {σ : L2.St} {H : Hp} {D : Ends}
    (hh : HeapR K m H h) (he : EnvR K m H σ ρ) (fin : FinS K mg m H (match fa ρ h with | .ok a h1 => k a h1 | .ex c fs h1 => .ex c fs ρ h1 | .bad => .bad) D W) :
    Rd K mg W Rp fa σ H fun x H1 => ∃ m1 h1 a, m <+: m1 ∧ Keeps H H1 ∧ HeapR K m1 H1 h1 ∧ EnvR K m1 H1 σ ρ ∧ Rp m1 H1 a x ∧ FinS K mg m1 H1 (k a h1) D W := by
  refine ⟨m, ρ, h, hh, he, ?_⟩
  cases e : fa ρ h with
  | ok a h' =>
    rw [e] at fin
    exact fun m' H' b p q r s => ⟨m', h', a, p, q, r, he.mono p q, s, FinS.mono p q fin⟩
  | ex c fs h' =>
    rw [e] at fin
    exact fun m' H' C dx vfs p q r s t u => fin m' H' σ C dx vfs p q r (he.mono p q) s t u
  | bad =>
    rw [e] at fin
    exact fin
theorem pe_imp {X : Cx} {e : Expr} {t t' : TE} (h : PE X e t) (i : ∀ σ H Q, t' σ H Q → t σ H Q) : PE X e t' := ⟨fun pins s σ H Q I q => h.run pins s σ H Q I (i σ H Q q)⟩
theorem pt_imp {X : Cx} {e : Expr} {t t' : TT} (h : PT X e t) (i : ∀ σ H Q, t' σ H Q → t σ H Q) : PT X e t' := ⟨fun pins s σ H Q I q => h.run pins s σ H Q I (i σ H Q q)⟩
theorem pa_imp {X : Cx} {e : List Expr} {t t' : TA} (h : PA X e t) (i : ∀ σ H Q, t' σ H Q → t σ H Q) : PA X e t' := ⟨fun pos pins s σ H Q I q => h.run pos pins s σ H Q I (i σ H Q q)⟩
theorem pw_imp {X : Cx} {e : Expr} {t t' : TT} (h : PW X e t) (i : ∀ σ H Q, t' σ H Q → t σ H Q) : PW X e t' := ⟨fun wh pins s σ H Q I q => h.run wh pins s σ H Q I (i σ H Q q)⟩
theorem ps_imp {X : Cx} {e : Stmt} {t t' : TS} (h : PS X e t) (i : ∀ D σ H, t' D σ H → t D σ H) : PS X e t' := ⟨fun pins s σ H D I q => h.run pins s σ H D I (i D σ H q)⟩
theorem pss_imp {X : Cx} {e : List Stmt} {t t' : TS} (h : PSs X e t) (i : ∀ D σ H, t' D σ H → t D σ H) : PSs X e t' := ⟨fun pins s σ H D I q => h.run pins s σ H D I (i D σ H q)⟩

/-! ## expressions: names, constants -/
def eVar (i : Nat) : ES := fun ρ h => match ρ[i]? with
  | some (some d) => .ok d h
  | _ => .bad
def eC (d : D) : ES := fun _ h => .ok d h
section
variable {X : Cx} {W : WX} {pos : Pos}
theorem c_var (i : Nat) {x : Str} (hN : X.N[i]? = some x := by rfl) (hv : Vis X.env.scope x := by first | exact Or.inl rfl | exact Or.inr (Or.inl rfl) | exact Or.inr (Or.inr rfl)) (hd : (x == ("__debug__" : Str)) = false := by decide)
    (hcd : (x == ("__classdict__" : Str)) = false := by decide) : PE X (.Name x pos) (RdE X W (eVar i)) := by
  refine pe_imp (pe_var hN hv hd hcd) fun σ H Q q => ?_
  obtain ⟨m, ρ, h, hh, he, fin⟩ := q
  unfold eVar at fin
  split at fin
  · rename_i d e
    obtain ⟨v, e1, r⟩ := he.get i d e
    exact ⟨v, e1, fin m H v (List.prefix_refl _) (.refl _) hh r⟩
  · exact fin.elim
theorem c_int {i : Int} {j : Nat} : PE X (.Constant (.int i) j pos) (RdE X W (eC (.int i))) := pe_imp pe_int fun σ H Q ⟨m, ρ, h, hh, he, fin⟩ => fin m H _ (List.prefix_refl _) (.refl _) hh rfl
theorem c_bl {b : Bool} {j : Nat} : PE X (.Constant (.bool b) j pos) (RdE X W (eC (.bl b))) := pe_imp pe_bl fun σ H Q ⟨m, ρ, h, hh, he, fin⟩ => fin m H _ (List.prefix_refl _) (.refl _) hh rfl
theorem c_non {j : Nat} : PE X (.Constant .none j pos) (RdE X W (eC .non)) := pe_imp pe_non fun σ H Q ⟨m, ρ, h, hh, he, fin⟩ => fin m H _ (List.prefix_refl _) (.refl _) hh rfl
theorem c_str (s : List Nat) {x : Str} {j : Nat} (hs : x = ⟨s.toArray⟩ := by decide +kernel) : PE X (.Constant (.str x) j pos) (RdE X W (eC (.str s))) := by
  subst hs
  exact pe_imp pe_str fun σ H Q ⟨m, ρ, h, hh, he, fin⟩ => fin m H _ (List.prefix_refl _) (.refl _) hh rfl
/-- what a module's name holds -/
def GlobD (K : PySem.W.Frag) (mg : Str → Option Value) (x : Str) (d : D) : Prop := ∃ u v, mg x = some u ∧ RelV v u ∧ ∀ m H, RepD K m H d v
theorem c_glob {x : Str} {d : D} (g : GlobD X.K X.mg x d) (hg : Gl X x := by rfl) (hd : (x == ("__debug__" : Str)) = false := by decide) : PE X (.Name x pos) (RdE X W (eC d)) := by
  obtain ⟨u, v, e, r, q⟩ := g
  exact pe_imp (pe_glob hg e r hd) fun σ H Q ⟨m, ρ, h, hh, he, fin⟩ => fin m H _ (List.prefix_refl _) (.refl _) hh (q _ _)
end

/-! ## operators by values -/
/-- what a built-in step gives: a value and the heap, or no meaning -/
abbrev P1 := D → HH → Option (D × HH)
abbrev P2 := D → D → HH → Option (D × HH)
abbrev PL := List D → HH → Option (D × HH)
def FinP (K : PySem.W.Frag) (m : List Addr) (H : Hp) (r : Option (D × HH)) (Q : VK) : Prop := match r with
  | some (d, h') => ∀ m' H' v, m <+: m' → Keeps H H' → HeapR K m' H' h' → RepD K m' H' d v → Q v H'
  | none => False
def R.of (r : Option (D × HH)) : R D := match r with
  | some (d, h) => .ok d h
  | none => .bad
theorem Fin.toP {K : PySem.W.Frag} {mg : Str → Option Value} {m : List Addr} {H : Hp} {r : Option (D × HH)} {Q : VK} {E : XK} (f : Fin K mg (RepD K) m H (R.of r) Q E) : FinP K m H r Q := by
  cases r with
  | none => exact f
  | some p => exact f
def eBin (g : P2) (fa fb : ES) : ES := fun ρ h => (fa ρ h).bind fun x h1 => (fb ρ h1).bind fun y h2 => R.of (g x y h2)
def eUn (g : P1) (fa : ES) : ES := fun ρ h => (fa ρ h).bind fun x h1 => R.of (g x h1)
/-- reading of a built-in step of two values -/
def RdP (K : PySem.W.Frag) (g : P2) : R2 := fun x y H Q => ∃ m h dx dy, HeapR K m H h ∧ RepD K m H dx x ∧ RepD K m H dy y ∧ FinP K m H (g dx dy h) Q
def RdU (K : PySem.W.Frag) (g : P1) : V → Hp → VK → Prop := fun x H Q => ∃ m h dx, HeapR K m H h ∧ RepD K m H dx x ∧ FinP K m H (g dx h) Q
def RdL (K : PySem.W.Frag) (g : PL) : List V → Hp → VK → Prop := fun xs H Q => ∃ m h ds, HeapR K m H h ∧ RepL K m H ds xs ∧ FinP K m H (g ds h) Q
section
variable {X : Cx} {W : WX} {pos : Pos} {a b c : Expr} {fa fb fc : ES}
theorem l_bin {g : P2} {σ : L2.St} {H : Hp} {Q : VK} (q : RdE X W (eBin g fa fb) σ H Q) : tOp (RdP X.K g) (RdE X W fa) (RdE X W fb) σ H Q := by
  obtain ⟨m, ρ, h, hh, he, fin⟩ := q
  refine (Rd.seq hh he fin).imp fun x H1 ⟨m1, h1, dx, p1, k1, hh1, he1, r1, fin1⟩ => ?_
  refine (Rd.seq hh1 he1 fin1).imp fun y H2 ⟨m2, h2, dy, p2, k2, hh2, he2, r2, fin2⟩ => ?_
  exact ⟨m2, h2, dx, dy, hh2, r1.mono p2 k2, r2, fin2.toP⟩
theorem l_un {g : P1} {σ : L2.St} {H : Hp} {Q : VK} (q : RdE X W (eUn g fa) σ H Q) : tUn (RdU X.K g) (RdE X W fa) σ H Q := by
  obtain ⟨m, ρ, h, hh, he, fin⟩ := q
  refine (Rd.seq hh he fin).imp fun x H1 ⟨m1, h1, dx, p1, k1, hh1, he1, r1, fin1⟩ => ?_
  exact ⟨m1, h1, dx, hh1, r1, fin1.toP⟩
theorem c_bin {op : Operator} {g : P2} (ho : OpR X (binaryOp op) (RdP X.K g)) (ha : PE X a (RdE X W fa)) (hb : PE X b (RdE X W fb)) : PE X (.BinOp a op b pos) (RdE X W (eBin g fa fb)) :=
  pe_imp (pe_op ho ha hb) fun _ _ _ q => l_bin q
theorem c_un {op : UnaryOp} {g : P1} (ho : UnR X (unaryOp op) (RdU X.K g)) (ha : PE X a (RdE X W fa)) : PE X (.UnaryOp op a pos) (RdE X W (eUn g fa)) :=
  pe_imp (pe_un ho ha) fun _ _ _ q => l_un q
theorem c_cmp {op : CmpOp} {g : P2} (ho : OpR X (compareOp op) (RdP X.K g)) (ha : PE X a (RdE X W fa)) (hb : PE X b (RdE X W fb)) (hm : behindInMarks op b = false := by first | exact nomark _ | rfl) :
    PE X (.Compare a [op] [b] pos) (RdE X W (eBin g fa fb)) := pe_imp (pe_cmpR ho ha hb hm) fun _ _ _ q => l_bin q

/-! ## tests -/
def tBool (f : ES) : TS' := fun ρ h => (f ρ h).bind fun x h1 => match x with
  | .bl b => .ok b h1
  | _ => .bad
theorem l_bool {f : ES} {σ : L2.St} {H : Hp} {Q : Bool → Hp → Prop} (q : RdT X W (tBool f) σ H Q) : RdE X W f σ H fun x H' => ∃ k, x = .bl k ∧ Q k H' := by
  obtain ⟨m, ρ, h, hh, he, fin⟩ := q
  refine (Rd.seq hh he fin).imp fun x H1 ⟨m1, h1, dx, p1, k1, hh1, he1, r1, fin1⟩ => ?_
  cases dx with
  | bl b => exact ⟨b, r1, fin1 m1 H1 b (List.prefix_refl _) (.refl _) hh1 rfl⟩
  | _ => exact fin1.elim
theorem c_tcmp {op : CmpOp} {g : P2} (ho : OpR X (compareOp op) (RdP X.K g)) (ha : PE X a (RdE X W fa)) (hb : PE X b (RdE X W fb)) (hm : behindInMarks op b = false := by first | exact nomark _ | rfl) :
    PT X (.Compare a [op] [b] pos) (RdT X W (tBool (eBin g fa fb))) := pt_imp (pt_cmpR ho ha hb hm) fun _ _ _ q => l_bin (l_bool q)
def eChain (g g' : P2) (fa fb fc : ES) : ES := fun ρ h => (fa ρ h).bind fun x h1 => (fb ρ h1).bind fun y h2 => (R.of (g x y h2)).bind fun z h3 => match z with
  | .bl true => (fc ρ h3).bind fun w h4 => R.of (g' y w h4)
  | .bl false => .ok (.bl false) h3
  | _ => .bad
theorem l_chain {g g' : P2} {σ : L2.St} {H : Hp} {Q : VK} (q : RdE X W (eChain g g' fa fb fc) σ H Q) : tChain (RdP X.K g) (RdP X.K g') (RdE X W fa) (RdE X W fb) (RdE X W fc) σ H Q := by
  obtain ⟨m, ρ, h, hh, he, fin⟩ := q
  refine (Rd.seq hh he fin).imp fun x H1 ⟨m1, h1, dx, p1, k1, hh1, he1, r1, fin1⟩ => ?_
  refine (Rd.seq hh1 he1 fin1).imp fun y H2 ⟨m2, h2, dy, p2, k2, hh2, he2, r2, fin2⟩ => ?_
  refine ⟨m2, h2, dx, dy, hh2, r1.mono p2 k2, r2, ?_⟩
  cases e : g dx dy h2 with
  | none => rw [e] at fin2; exact fin2
  | some p =>
    obtain ⟨z, h3⟩ := p
    rw [e] at fin2
    intro m3 H3 v p3 k3 hh3 r3
    have fin3 := Fin.mono p3 k3 fin2
    cases z with
    | bl t =>
      have r3' : v = .bl t := r3
      subst r3'
      refine ⟨t, rfl, ?_⟩
      cases t with
      | false => exact fin3 m3 H3 (.bl false) (List.prefix_refl _) (.refl _) hh3 rfl
      | true =>
        refine Rd.imp (Rd.seq hh3 (he2.mono p3 k3) fin3) fun w H4 ⟨m4, h4, dw, p4, k4, hh4, he4, r4, fin4⟩ => ?_
        exact ⟨m4, h4, dy, dw, hh4, (r2.mono p3 k3).mono p4 k4, r4, fin4.toP⟩
    | _ => exact fin3.elim
theorem c_chain {op op' : CmpOp} {g g' : P2} (ho : OpR X (compareOp op) (RdP X.K g)) (ho' : OpR X (compareOp op') (RdP X.K g')) (ha : PE X a (RdE X W fa)) (hb : PE X b (RdE X W fb)) (hc : PE X c (RdE X W fc))
    (hm : lastMarks [op, op'] [b, c] = false := by with_unfolding_all rfl) : PE X (.Compare a [op, op'] [b, c] pos) (RdE X W (eChain g g' fa fb fc)) := pe_imp (pe_chain ho ho' ha hb hc hm) fun _ _ _ q => l_chain q
theorem c_tchain {op op' : CmpOp} {g g' : P2} (ho : OpR X (compareOp op) (RdP X.K g)) (ho' : OpR X (compareOp op') (RdP X.K g')) (ha : PE X a (RdE X W fa)) (hb : PE X b (RdE X W fb)) (hc : PE X c (RdE X W fc))
    (hm : lastMarks [op, op'] [b, c] = false := by with_unfolding_all rfl) : PT X (.Compare a [op, op'] [b, c] pos) (RdT X W (tBool (eChain g g' fa fb fc))) := pt_imp (pt_chain ho ho' ha hb hc hm) fun _ _ _ q => l_chain (l_bool q)

/-- truth of a value -/
def truth (d : D) (h : HH) : Option Bool := match d with
  | .non => some false
  | .bl b => some b
  | .int i => some (i != 0)
  | .str s => if s.length ≤ sizeLine then some ((s.length : Int) != 0) else none
  | .tup ds => some (!ds.isEmpty)
  | .ref n => match h[n]? with
    | some (.lst xs) => some (!xs.isEmpty)
    | some (.scr xs) => some (!xs.isEmpty)
    | _ => none
  | _ => none
theorem RepL.isEmpty {K : PySem.W.Frag} {m : List Addr} {H : Hp} {ds : List D} {vs : List V} (h : RepL K m H ds vs) : vs.isEmpty = ds.isEmpty := by
  have := h.length
  cases ds <;> cases vs <;> first | rfl | (simp at this)
theorem truth_ok {K : PySem.W.Frag} {m : List Addr} {H : Hp} {h : HH} {d : D} {v : V} {k : Bool} (hh : HeapR K m H h) (r : RepD K m H d v) (e : truth d h = some k) : TruV K v H k := by
  cases d with
  | non => have r' : v = .non := r; subst r'; exact (Option.some.inj e).symm
  | bl b => have r' : v = .bl b := r; subst r'; exact (Option.some.inj e).symm
  | int i => have r' : v = .int i := r; subst r'; exact (Option.some.inj e).symm
  | str s =>
    have r' : v = .str ⟨s.toArray⟩ := r
    subst r'
    dsimp only [truth] at e
    split at e
    · rename_i hl
      refine ⟨by simpa [Str.length] using hl, ?_⟩
      rw [← Option.some.inj e]
      simp [Str.length]
    · cases e
  | tup ds =>
    obtain ⟨a, vs, e1, q, t⟩ := r
    subst e1
    exact .inr (.inl ⟨vs, q, by rw [t.isEmpty]; exact (Option.some.inj e).symm⟩)
  | ref n =>
    obtain ⟨a, e1, e2⟩ := r
    subst e2
    dsimp only [truth] at e
    cases q : h[n]? with
    | none => rw [q] at e; cases e
    | some c =>
      rw [q] at e
      have t := hh.cell n a _ e1 q
      cases c with
      | lst xs =>
        obtain ⟨vs, q1, t⟩ := t
        exact .inl ⟨vs, SqL.of q1, by rw [t.isEmpty]; exact (Option.some.inj e).symm⟩
      | scr xs =>
        obtain ⟨vs, q1, t⟩ := t
        exact .inl ⟨vs, q1.sql, by rw [t.isEmpty]; exact (Option.some.inj e).symm⟩
  | adr _ => cases e
  | ty _ => cases e
def tTru (f : ES) : TS' := fun ρ h => (f ρ h).bind fun x h1 => match truth x h1 with
  | some b => .ok b h1
  | none => .bad
theorem c_tru (ha : PE X a (RdE X W fa)) (he : ∀ whole, isTrue a X.env whole = (do let v ← whole; standAt a.pos; holding [v] (truthy v)) := by intro _; rfl) : PT X a (RdT X W (tTru fa)) := by
  refine pt_imp (pt_truth ha he) fun σ H Q ⟨m, ρ, h, hh, henv, fin⟩ => ?_
  refine (Rd.seq hh henv fin).imp fun x H1 ⟨m1, h1, dx, p1, k1, hh1, he1, r1, fin1⟩ => ?_
  cases e : truth dx h1 with
  | none => rw [e] at fin1; exact fin1.elim
  | some b =>
    rw [e] at fin1
    exact ⟨b, truth_ok hh1 r1 e, fin1 m1 H1 b (List.prefix_refl _) (.refl _) hh1 rfl⟩
def tNot' (f : TS') : TS' := fun ρ h => (f ρ h).bind fun x h1 => .ok (!x) h1
def tAnd' (f g : TS') : TS' := fun ρ h => (f ρ h).bind fun x h1 => if x = true then g ρ h1 else .ok false h1
def tOr' (f g : TS') : TS' := fun ρ h => (f ρ h).bind fun x h1 => if x = true then .ok true h1 else g ρ h1
theorem c_tnot {f : TS'} (ha : PT X a (RdT X W f)) : PT X (.UnaryOp .Not a pos) (RdT X W (tNot' f)) := by
  refine pt_imp (pt_not ha) fun σ H Q ⟨m, ρ, h, hh, henv, fin⟩ => ?_
  refine (Rd.seq hh henv fin).imp fun x H1 ⟨m1, h1, dx, p1, k1, hh1, he1, r1, fin1⟩ => ?_
  subst r1
  exact fin1 m1 H1 _ (List.prefix_refl _) (.refl _) hh1 rfl
theorem c_and1 {f : TS'} (ha : PT X a (RdT X W f)) : PW X (.BoolOp .And [a] pos) (RdT X W f) := pw_and1 ha
theorem c_or1 {f : TS'} (ha : PT X a (RdT X W f)) : PW X (.BoolOp .Or [a] pos) (RdT X W f) := pw_or1 ha
theorem c_and {f g : TS'} {rest : List Expr} (ha : PT X a (RdT X W f)) (hb : PW X (.BoolOp .And (b :: rest) pos) (RdT X W g)) : PW X (.BoolOp .And (a :: b :: rest) pos) (RdT X W (tAnd' f g)) := by
  refine pw_imp (pw_and ha hb) fun σ H Q ⟨m, ρ, h, hh, henv, fin⟩ => ?_
  refine (Rd.seq hh henv fin).imp fun x H1 ⟨m1, h1, dx, p1, k1, hh1, he1, r1, fin1⟩ => ?_
  subst r1
  cases dx with
  | true => exact ⟨m1, ρ, h1, hh1, he1, fin1⟩
  | false => exact fin1 m1 H1 _ (List.prefix_refl _) (.refl _) hh1 rfl
theorem c_or {f g : TS'} {rest : List Expr} (ha : PT X a (RdT X W f)) (hb : PW X (.BoolOp .Or (b :: rest) pos) (RdT X W g)) : PW X (.BoolOp .Or (a :: b :: rest) pos) (RdT X W (tOr' f g)) := by
  refine pw_imp (pw_or ha hb) fun σ H Q ⟨m, ρ, h, hh, henv, fin⟩ => ?_
  refine (Rd.seq hh henv fin).imp fun x H1 ⟨m1, h1, dx, p1, k1, hh1, he1, r1, fin1⟩ => ?_
  subst r1
  cases dx with
  | false => exact ⟨m1, ρ, h1, hh1, he1, fin1⟩
  | true => exact fin1 m1 H1 _ (List.prefix_refl _) (.refl _) hh1 rfl
theorem c_tw {f : TS'} (h : PW X a (RdT X W f)) : PT X a (RdT X W f) := h.pt
/-- and, or, not as values -/
def eAnd (f g : ES) : ES := fun ρ h => (f ρ h).bind fun x h1 => match x with
  | .bl true => g ρ h1
  | .bl false => .ok (.bl false) h1
  | _ => .bad
def eOr (f g : ES) : ES := fun ρ h => (f ρ h).bind fun x h1 => match x with
  | .bl true => .ok (.bl true) h1
  | .bl false => g ρ h1
  | _ => .bad
def eNot (f : ES) : ES := fun ρ h => (f ρ h).bind fun x h1 => match x with
  | .bl b => .ok (.bl (!b)) h1
  | _ => .bad
theorem c_vone {op : BoolOp} {f : ES} (ha : PE X a (RdE X W f)) : PE X (.BoolOp op [a] pos) (RdE X W f) := pe_one ha
theorem c_vand {f g : ES} {rest : List Expr} (ha : PE X a (RdE X W f)) (hb : PE X (.BoolOp .And (b :: rest) pos) (RdE X W g)) : PE X (.BoolOp .And (a :: b :: rest) pos) (RdE X W (eAnd f g)) := by
  refine pe_imp (pe_and ha hb) fun σ H Q ⟨m, ρ, h, hh, henv, fin⟩ => ?_
  refine (Rd.seq hh henv fin).imp fun x H1 ⟨m1, h1, dx, p1, k1, hh1, he1, r1, fin1⟩ => ?_
  cases dx with
  | bl t =>
    refine ⟨t, r1, ?_⟩
    cases t with
    | true => exact ⟨m1, ρ, h1, hh1, he1, fin1⟩
    | false => exact fin1 m1 H1 _ (List.prefix_refl _) (.refl _) hh1 rfl
  | _ => exact fin1.elim
theorem c_vor {f g : ES} {rest : List Expr} (ha : PE X a (RdE X W f)) (hb : PE X (.BoolOp .Or (b :: rest) pos) (RdE X W g)) : PE X (.BoolOp .Or (a :: b :: rest) pos) (RdE X W (eOr f g)) := by
  refine pe_imp (pe_or ha hb) fun σ H Q ⟨m, ρ, h, hh, henv, fin⟩ => ?_
  refine (Rd.seq hh henv fin).imp fun x H1 ⟨m1, h1, dx, p1, k1, hh1, he1, r1, fin1⟩ => ?_
  cases dx with
  | bl t =>
    refine ⟨t, r1, ?_⟩
    cases t with
    | false => exact ⟨m1, ρ, h1, hh1, he1, fin1⟩
    | true => exact fin1 m1 H1 _ (List.prefix_refl _) (.refl _) hh1 rfl
  | _ => exact fin1.elim
theorem c_vnot {f : ES} (ha : PE X a (RdE X W f)) : PE X (.UnaryOp .Not a pos) (RdE X W (eNot f)) := by
  refine pe_imp (pe_not ha) fun σ H Q ⟨m, ρ, h, hh, henv, fin⟩ => ?_
  refine (Rd.seq hh henv fin).imp fun x H1 ⟨m1, h1, dx, p1, k1, hh1, he1, r1, fin1⟩ => ?_
  cases dx with
  | bl t => exact ⟨t, r1, fin1 m1 H1 _ (List.prefix_refl _) (.refl _) hh1 rfl⟩
  | _ => exact fin1.elim
def eIf (t : TS') (f g : ES) : ES := fun ρ h => (t ρ h).bind fun x h1 => if x = true then f ρ h1 else g ρ h1
theorem c_if {t : TS'} {f g : ES} (hc : PT X c (RdT X W t)) (ha : PE X a (RdE X W f)) (hb : PE X b (RdE X W g)) : PE X (.IfExp c a b pos) (RdE X W (eIf t f g)) := by
  refine pe_imp (pe_ifExp hc ha hb) fun σ H Q ⟨m, ρ, h, hh, henv, fin⟩ => ?_
  refine (Rd.seq hh henv fin).imp fun x H1 ⟨m1, h1, dx, p1, k1, hh1, he1, r1, fin1⟩ => ?_
  subst r1
  cases dx with
  | true => exact ⟨m1, ρ, h1, hh1, he1, fin1⟩
  | false => exact ⟨m1, ρ, h1, hh1, he1, fin1⟩
end

/-! ## argument lists, displays -/
def aNil : AS := fun _ h => .ok [] h
def aCons (f : ES) (g : AS) : AS := fun ρ h => (f ρ h).bind fun x h1 => (g ρ h1).bind fun xs h2 => .ok (x :: xs) h2
def eTup (g : AS) : ES := fun ρ h => (g ρ h).bind fun xs h1 => if xs.length ≤ sizeLine then .ok (.tup xs) h1 else .bad
def eLst (g : AS) : ES := fun ρ h => (g ρ h).bind fun xs h1 => if xs.length ≤ sizeLine then .ok (.ref h1.length) (h1 ++ [.lst xs]) else .bad
/-- a new tuple, a new list: what every such reading asks -/
theorem fin_tup {K : PySem.W.Frag} {m : List Addr} {H : Hp} {h : HH} {ds : List D} {vs : List V} {Q : VK} (hh : HeapR K m H h) (r : RepL K m H ds vs) (f : FinP K m H (some (.tup ds, h)) Q) : ∀ p, H p = none → Q (.ref p) (upd H p (.tup vs)) := fun p hp =>
  f m _ (.ref p) (List.prefix_refl _) (.new hp) (hh.tup hp) ⟨p, vs, rfl, SqT.of upd_same, r.mono (List.prefix_refl _) (.new hp)⟩
theorem fin_lst {K : PySem.W.Frag} {m : List Addr} {H : Hp} {h : HH} {ds : List D} {vs : List V} {Q : VK} (hh : HeapR K m H h) (r : RepL K m H ds vs) (f : FinP K m H (some (.ref h.length, h ++ [.lst ds])) Q) : ∀ p, H p = none → Q (.ref p) (upd H p (.lst vs)) := fun p hp =>
  f (m ++ [p]) _ (.ref p) (List.prefix_append _ _) (.new hp) (hh.push hp ⟨vs, upd_same, r.mono (List.prefix_append _ _) (.new hp)⟩) ⟨p, by rw [← hh.len]; simp, rfl⟩
section
variable {X : Cx} {W : WX} {pos : Pos} {e : Expr} {es : List Expr} {f : ES} {g : AS}
theorem c_nil : PA X [] (RdA X W aNil) := pa_imp pa_nil fun σ H Q ⟨m, ρ, h, hh, he, fin⟩ => fin m H _ (List.prefix_refl _) (.refl _) hh rfl
theorem c_cons (ha : PE X e (RdE X W f)) (hr : PA X es (RdA X W g)) (hs : starEach (e :: es) X.env = (false, eval e X.env) :: starEach es X.env := by rfl) : PA X (e :: es) (RdA X W (aCons f g)) := by
  refine pa_imp (pa_cons ha hr hs) fun σ H Q ⟨m, ρ, h, hh, he, fin⟩ => ?_
  refine (Rd.seq hh he fin).imp fun x H1 ⟨m1, h1, dx, p1, k1, hh1, he1, r1, fin1⟩ => ?_
  refine (Rd.seq hh1 he1 fin1).imp fun y H2 ⟨m2, h2, dy, p2, k2, hh2, he2, r2, fin2⟩ => ?_
  exact fin2 m2 H2 _ (List.prefix_refl _) (.refl _) hh2 ⟨x, y, rfl, r1.mono p2 k2, r2⟩
theorem c_tup {k : Nat} (h : PA X es (RdA X W g)) : PE X (.Tuple es k pos) (RdE X W (eTup g)) := by
  refine pe_imp (pe_tup h) fun σ H Q ⟨m, ρ, h, hh, he, fin⟩ => ?_
  refine (Rd.seq hh he fin).imp fun vs H1 ⟨m1, h1, ds, p1, k1, hh1, he1, r1, fin1⟩ => ?_
  by_cases hz : ds.length ≤ sizeLine
  · rw [if_pos hz] at fin1
    exact ⟨by rw [r1.length]; exact hz, fin_tup hh1 r1 fin1⟩
  · rw [if_neg hz] at fin1
    exact fin1.elim
theorem c_lst (h : PA X es (RdA X W g)) : PE X (.List es pos) (RdE X W (eLst g)) := by
  refine pe_imp (pe_lst h) fun σ H Q ⟨m, ρ, h, hh, he, fin⟩ => ?_
  refine (Rd.seq hh he fin).imp fun vs H1 ⟨m1, h1, ds, p1, k1, hh1, he1, r1, fin1⟩ => ?_
  by_cases hz : ds.length ≤ sizeLine
  · rw [if_pos hz] at fin1
    exact ⟨by rw [r1.length]; exact hz, fin_lst hh1 r1 fin1⟩
  · rw [if_neg hz] at fin1
    exact fin1.elim
end
end Py
set_option Elab.async false
set_option linter.all false
set_option maxRecDepth 100000
set_option maxHeartbeats 4000000
namespace Py
open PySem PySem.Spec PyProof.Rows L2

/-! ## the built-in steps -/
section
variable {K : PySem.W.Frag} {m : List Addr} {H : Hp} {h : HH}
theorem FinP.same {d : D} {v : V} {Q : VK} (hh : HeapR K m H h) (f : FinP K m H (some (d, h)) Q) (r : RepD K m H d v) : Q v H := f m H v (List.prefix_refl _) (.refl _) hh r
/-- the items of a list or tuple -/
def itemsL (h : HH) (n : Nat) : Option (List D) := match h[n]? with
  | some (.lst xs) => some xs
  | some (.scr xs) => some xs
  | _ => none
theorem itemsL_ok {n : Nat} {a : Addr} {xs : List D} (hh : HeapR K m H h) (e : m[n]? = some a) (i : itemsL h n = some xs) : ∃ vs, SqL K H a vs ∧ RepL K m H xs vs := by
  unfold itemsL at i
  cases q : h[n]? with
  | none => rw [q] at i; cases i
  | some c =>
    rw [q] at i
    have t := hh.cell n a _ e q
    cases c with
    | lst ys =>
      cases i
      obtain ⟨vs, q1, t⟩ := t
      exact ⟨vs, SqL.of q1, t⟩
    | scr ys =>
      cases i
      obtain ⟨vs, q1, t⟩ := t
      exact ⟨vs, q1.sql, t⟩
def lstOf (h : HH) (n : Nat) : Option (List D) := match h[n]? with
  | some (.lst xs) => some xs
  | _ => none
theorem lstOf_ok {n : Nat} {a : Addr} {xs : List D} (hh : HeapR K m H h) (e : m[n]? = some a) (i : lstOf h n = some xs) : h[n]? = some (.lst xs) ∧ ∃ vs, H a = some (.lst vs) ∧ RepL K m H xs vs := by
  unfold lstOf at i
  cases q : h[n]? with
  | none => rw [q] at i; cases i
  | some c =>
    rw [q] at i
    have t := hh.cell n a _ e q
    cases c with
    | lst ys =>
      cases i
      exact ⟨rfl, t⟩
    | scr ys => cases i
end

/-! ### arithmetic -/
def pAdd : P2 := fun x y h => match x, y with
  | .int i, .int j => some (.int (i + j), h)
  | .str s, .str t => if s.length + t.length ≤ sizeLine then some (.str (s ++ t), h) else none
  | .tup xs, .tup ys => if xs.length + ys.length ≤ sizeLine then some (.tup (xs ++ ys), h) else none
  | .ref a, .ref b => match lstOf h a, lstOf h b with
    | some xs, some ys => if xs.length + ys.length ≤ sizeLine then some (.ref h.length, h ++ [.lst (xs ++ ys)]) else none
    | _, _ => none
  | _, _ => none
def pSub : P2 := fun x y h => match x, y with
  | .int i, .int j => some (.int (i - j), h)
  | _, _ => none
-- the conditions stay closed to the kernel: it would count down from 2^64
noncomputable instance (i j : Int) : Decidable (CMul i j) := Classical.propDecidable _
def FitK (k : Int) (n : Nat) : Prop := -(2 ^ 63) ≤ k ∧ k < 2 ^ 63 ∧ n * k.toNat ≤ sizeLine
noncomputable instance (k : Int) (n : Nat) : Decidable (FitK k n) := Classical.propDecidable _
def InR (j : Int) : Prop := -(2 ^ 62) ≤ j ∧ j < 2 ^ 62
noncomputable instance (j : Int) : Decidable (InR j) := Classical.propDecidable _
noncomputable def pMul : P2 := fun x y h => match x, y with
  | .int i, .int j => if CMul i j then some (.int (i * j), h) else none
  | .ref a, .int k => match lstOf h a with
    | some xs => if FitK k xs.length then some (.ref h.length, h ++ [.lst (List.replicate k.toNat xs).flatten]) else none
    | none => none
  | _, _ => none
def pDiv : P2 := fun x y h => match x, y with
  | .int i, .int j => if j ≠ 0 ∧ j.natAbs < 1073741824 then some (.int (i.fdiv j), h) else none
  | _, _ => none
def pMod : P2 := fun x y h => match x, y with
  | .int i, .int j => if j ≠ 0 then some (.int (i.fmod j), h) else none
  | _, _ => none
def pNeg : P1 := fun x h => match x with
  | .int i => some (.int (-i), h)
  | _ => none
section
variable {X : Cx}
theorem opr_imp {f : Value → Value → Sem Value} {r r' : R2} (h : OpR X f r) (i : ∀ x y H Q, r' x y H Q → r x y H Q) : OpR X f r' := fun pins s σ H x y v u Q I rx ry q => h pins s σ H x y v u Q I rx ry (i x y H Q q)
theorem callr_imp {f : Value} {r r' : List V → Hp → VK → Prop} (h : CallR X f r) (i : ∀ x H Q, r' x H Q → r x H Q) : CallR X f r' := fun pins s σ H xs us Q I rx q => h pins s σ H xs us Q I rx (i xs H Q q)
theorem mtr_imp {f : String} {r r' : V → List V → Hp → VK → Prop} (h : MtR X f r) (i : ∀ x xs H Q, r' x xs H Q → r x xs H Q) : MtR X f r' := fun pins s σ H x xs v us Q I rx rs q => h pins s σ H x xs v us Q I rx rs (i x xs H Q q)
theorem ixr_imp {r r' : R2} (h : IxR X r) (i : ∀ x y H Q, r' x y H Q → r x y H Q) : IxR X r' := fun value slice pins s σ H x y v u Q I rx ry q => h value slice pins s σ H x y v u Q I rx ry (i x y H Q q)
theorem o_add : OpR X (binaryOp .Add) (RdP X.K pAdd) := by
  refine opr_imp (op_add.or (op_add_str.or (op_catA.or op_cat))) fun x y H Q ⟨m, h, dx, dy, hh, rx, ry, f⟩ => ?_
  cases dx with
  | int i =>
    cases dy with
    | int j => exact .inl ⟨i, j, rx, ry, f.same hh rfl⟩
    | _ => exact f.elim
  | str s =>
    cases dy with
    | str t =>
      dsimp only [pAdd] at f
      split at f
      · rename_i hz
        refine .inr (.inl ⟨_, _, rx, ry, by simpa [Str.length] using hz, ?_⟩)
        refine f.same hh ?_
        show _ = V.str _
        congr 1
        show Str.append _ _ = _
        simp [Str.append]
      · exact f.elim
    | _ => exact f.elim
  | tup xs =>
    cases dy with
    | tup ys =>
      dsimp only [pAdd] at f
      split at f
      · rename_i hz
        obtain ⟨a, vs, e1, q1, r1⟩ := rx
        obtain ⟨b, ws, e2, q2, r2⟩ := ry
        refine .inr (.inr (.inl ⟨a, b, vs, ws, e1, e2, q1, q2, by rw [r1.length, r2.length]; exact hz, fun z => ?_, fun _ z => ?_, fun _ _ => fin_tup hh (r1.append r2) f⟩))
        · have z' : xs = [] := by
            have := r1.length
            rw [z] at this
            exact List.length_eq_zero_iff.mp this.symm
          subst z'
          exact f.same hh ⟨b, ws, rfl, q2, r2⟩
        · have z' : ys = [] := by
            have := r2.length
            rw [z] at this
            exact List.length_eq_zero_iff.mp this.symm
          subst z'
          rw [List.append_nil] at f
          exact f.same hh ⟨a, vs, rfl, q1, r1⟩
      · exact f.elim
    | _ => exact f.elim
  | ref a =>
    cases dy with
    | ref b =>
      dsimp only [pAdd] at f
      obtain ⟨pa, ea, e1⟩ := rx
      obtain ⟨pb, eb, e2⟩ := ry
      cases q1 : lstOf h a with
      | none => rw [q1] at f; exact f.elim
      | some xs =>
        cases q2 : lstOf h b with
        | none => rw [q1, q2] at f; exact f.elim
        | some ys =>
          rw [q1, q2] at f
          dsimp only at f
          split at f
          · rename_i hz
            obtain ⟨_, vs, hv, r1⟩ := lstOf_ok hh ea q1
            obtain ⟨_, ws, hw, r2⟩ := lstOf_ok hh eb q2
            exact .inr (.inr (.inr ⟨pa, pb, vs, ws, e1, e2, hv, hw, by rw [r1.length, r2.length]; exact hz, fin_lst hh (r1.append r2) f⟩))
          · exact f.elim
    | _ => exact f.elim
  | _ => exact f.elim
theorem o_sub : OpR X (binaryOp .Sub) (RdP X.K pSub) := by
  refine opr_imp op_sub fun x y H Q ⟨m, h, dx, dy, hh, rx, ry, f⟩ => ?_
  cases dx with
  | int i =>
    cases dy with
    | int j => exact ⟨i, j, rx, ry, f.same hh rfl⟩
    | _ => exact f.elim
  | _ => exact f.elim
theorem o_mul : OpR X (binaryOp .Mult) (RdP X.K pMul) := by
  refine opr_imp (op_mul.or op_rep) fun x y H Q ⟨m, h, dx, dy, hh, rx, ry, f⟩ => ?_
  cases dx with
  | int i =>
    cases dy with
    | int j =>
      dsimp only [pMul] at f
      split at f
      · rename_i hz
        exact .inl ⟨i, j, rx, ry, hz, f.same hh rfl⟩
      · exact f.elim
    | _ => exact f.elim
  | ref a =>
    cases dy with
    | int k =>
      dsimp only [pMul] at f
      obtain ⟨pa, ea, e1⟩ := rx
      cases q1 : lstOf h a with
      | none => rw [q1] at f; exact f.elim
      | some xs =>
        rw [q1] at f
        dsimp only at f
        split at f
        · rename_i hz
          obtain ⟨_, vs, hv, r1⟩ := lstOf_ok hh ea q1
          exact .inr ⟨pa, k, vs, e1, ry, hv, hz.1, hz.2.1, by rw [r1.length]; exact hz.2.2, fin_lst hh (r1.flat_rep k.toNat) f⟩
        · exact f.elim
    | _ => exact f.elim
  | _ => exact f.elim
theorem o_div : OpR X (binaryOp .FloorDiv) (RdP X.K pDiv) := by
  refine opr_imp op_fdivN fun x y H Q ⟨m, h, dx, dy, hh, rx, ry, f⟩ => ?_
  cases dx with
  | int i =>
    cases dy with
    | int j =>
      dsimp only [pDiv] at f
      split at f
      · rename_i hz
        exact ⟨i, j, rx, ry, hz, f.same hh rfl⟩
      · exact f.elim
    | _ => exact f.elim
  | _ => exact f.elim
theorem o_mod : OpR X (binaryOp .Mod) (RdP X.K pMod) := by
  refine opr_imp op_modN fun x y H Q ⟨m, h, dx, dy, hh, rx, ry, f⟩ => ?_
  cases dx with
  | int i =>
    cases dy with
    | int j =>
      dsimp only [pMod] at f
      split at f
      · rename_i hz
        exact ⟨i, j, rx, ry, hz, f.same hh rfl⟩
      · exact f.elim
    | _ => exact f.elim
  | _ => exact f.elim
theorem o_neg : UnR X (unaryOp .USub) (RdU X.K pNeg) := fun pins s σ H x v Q I rx ⟨m, h, dx, hh, r, f⟩ => by
  refine un_neg pins s σ H x v Q I rx ?_
  cases dx with
  | int i => exact ⟨i, r, f.same hh rfl⟩
  | _ => exact f.elim
/-- x += e: the same steps where the left is an int, a text or a tuple -/
def pIAdd : P2 := fun x y h => match x, y with
  | .int i, .int j => some (.int (i + j), h)
  | .str s, .str t => if s.length + t.length ≤ sizeLine then some (.str (s ++ t), h) else none
  | _, _ => none
theorem o_iadd : OpR X (inplaceOp .Add) (RdP X.K pIAdd) := by
  refine opr_imp (iop_add.or iop_add_str) fun x y H Q ⟨m, h, dx, dy, hh, rx, ry, f⟩ => ?_
  cases dx with
  | int i =>
    cases dy with
    | int j => exact .inl ⟨i, j, rx, ry, f.same hh rfl⟩
    | _ => exact f.elim
  | str s =>
    cases dy with
    | str t =>
      dsimp only [pIAdd] at f
      split at f
      · rename_i hz
        refine .inr ⟨_, _, rx, ry, by simpa [Str.length] using hz, ?_⟩
        refine f.same hh ?_
        show _ = V.str _
        congr 1
        show Str.append _ _ = _
        simp [Str.append]
      · exact f.elim
    | _ => exact f.elim
  | _ => exact f.elim
theorem o_isub : OpR X (inplaceOp .Sub) (RdP X.K pSub) := by
  refine opr_imp iop_sub fun x y H Q ⟨m, h, dx, dy, hh, rx, ry, f⟩ => ?_
  cases dx with
  | int i =>
    cases dy with
    | int j => exact ⟨i, j, rx, ry, f.same hh rfl⟩
    | _ => exact f.elim
  | _ => exact f.elim
end

/-! ### comparisons -/
def pCmp (p : Int → Int → Bool) : P2 := fun x y h => match x, y with
  | .int i, .int j => some (.bl (p i j), h)
  | _, _ => none
abbrev pLt : P2 := pCmp fun i j => decide (i < j)
abbrev pLe : P2 := pCmp fun i j => decide (i ≤ j)
abbrev pGt : P2 := pCmp fun i j => decide (j < i)
abbrev pGe : P2 := pCmp fun i j => decide (j ≤ i)
section
variable {X : Cx}
theorem o_cmp {f : Value → Value → Sem Value} {p : Int → Int → Bool} (ho : OpR X f (rI0 fun i j => .bl (p i j))) : OpR X f (RdP X.K (pCmp p)) := by
  refine opr_imp ho fun x y H Q ⟨m, h, dx, dy, hh, rx, ry, f⟩ => ?_
  cases dx with
  | int i =>
    cases dy with
    | int j => exact ⟨i, j, rx, ry, f.same hh rfl⟩
    | _ => exact f.elim
  | _ => exact f.elim
theorem o_lt : OpR X (compareOp .Lt) (RdP X.K pLt) := o_cmp op_lt
theorem o_le : OpR X (compareOp .LtE) (RdP X.K pLe) := o_cmp op_le
theorem o_gt : OpR X (compareOp .Gt) (RdP X.K pGt) := o_cmp op_gt
theorem o_ge : OpR X (compareOp .GtE) (RdP X.K pGe) := o_cmp op_ge
end
/-! == of data -/
mutual
def toPy : D → Option PyData
  | .non => some .none
  | .bl b => some (.bool b)
  | .int i => some (.int i)
  | .str s => some (.str ⟨s.toArray⟩)
  | .tup ds => (toPyL ds).map .tuple
  | _ => none
def toPyL : List D → Option (List PyData)
  | [] => some []
  | d :: ds => (toPy d).bind fun x => (toPyL ds).map fun xs => x :: xs
end
def toPyH (h : HH) : D → Option PyData
  | .ref n => (itemsL h n).bind fun xs => (toPyL xs).map .list
  | d => toPy d
mutual
theorem toPy_ok {K : PySem.W.Frag} {m : List Addr} {H : Hp} : ∀ {d : D} {v : V} {p : PyData}, RepD K m H d v → toPy d = some p → Dp K H v p
  | .non, v, p, r, e => by cases e; have r' : v = .non := r; subst r'; exact .non
  | .bl b, v, p, r, e => by cases e; have r' : v = .bl b := r; subst r'; exact .bl b
  | .int i, v, p, r, e => by cases e; have r' : v = .int i := r; subst r'; exact .int i
  | .str s, v, p, r, e => by cases e; have r' : v = .str _ := r; subst r'; exact .str _
  | .tup ds, v, p, r, e => by
    obtain ⟨a, vs, e1, q, t⟩ := r
    subst e1
    unfold toPy at e
    cases hp : toPyL ds with
    | none => rw [hp] at e; cases e
    | some ps =>
      rw [hp] at e
      cases e
      exact .tup q (toPyL_ok t hp)
  | .ref _, _, _, _, e => by cases e
  | .adr _, _, _, _, e => by cases e
  | .ty _, _, _, _, e => by cases e
theorem toPyL_ok {K : PySem.W.Frag} {m : List Addr} {H : Hp} : ∀ {ds : List D} {vs : List V} {ps : List PyData}, RepL K m H ds vs → toPyL ds = some ps → DpAll K H vs ps
  | [], vs, ps, r, e => by
    cases e
    have r' : vs = [] := r
    subst r'
    exact .nil
  | d :: ds, vs, ps, r, e => by
    obtain ⟨v, ws, e1, q, t⟩ := r
    subst e1
    unfold toPyL at e
    cases hp : toPy d with
    | none => rw [hp] at e; cases e
    | some p =>
      cases hq : toPyL ds with
      | none => rw [hp, hq] at e; cases e
      | some qs =>
        rw [hp, hq] at e
        cases e
        exact .cons (toPy_ok q hp) (toPyL_ok t hq)
end
theorem toPyH_ok {K : PySem.W.Frag} {m : List Addr} {H : Hp} {h : HH} {d : D} {v : V} {p : PyData} (hh : HeapR K m H h) (r : RepD K m H d v) (e : toPyH h d = some p) : Dp K H v p := by
  cases d with
  | ref n =>
    obtain ⟨a, e1, e2⟩ := r
    subst e2
    dsimp only [toPyH] at e
    cases hp : itemsL h n with
    | none => rw [hp] at e; cases e
    | some xs =>
      cases hq : toPyL xs with
      | none => rw [hp] at e; dsimp only [Option.bind] at e; rw [hq] at e; cases e
      | some ps =>
        rw [hp] at e
        dsimp only [Option.bind] at e
        rw [hq] at e
        cases e
        obtain ⟨vs, q, t⟩ := itemsL_ok hh e1 hp
        exact .lst q (toPyL_ok t hq)
  | _ => exact toPy_ok r e
/-- equal scalars of one kind, else data -/
def eqD (h : HH) (x y : D) : Option Bool := match x, y with
  | .non, .non => some true
  | .int i, .int j => some (decide (i = j))
  | .bl i, .bl j => some (decide (i = j))
  | .str i, .str j => some (decide (i = j))
  | x, y => (toPyH h x).bind fun p => (toPyH h y).bind fun q => if SeqAt.shaped p = true ∧ SeqAt.shaped q = true then some (PyData.eqv p q) else none
def pEq : P2 := fun x y h => (eqD h x y).map fun b => (.bl b, h)
def pNe : P2 := fun x y h => (eqD h x y).map fun b => (.bl (!b), h)
theorem eqD_ok {K : PySem.W.Frag} {m : List Addr} {H : Hp} {h : HH} {dx dy : D} {x y : V} {b : Bool} (hh : HeapR K m H h) (rx : RepD K m H dx x) (ry : RepD K m H dy y) (e : eqD h dx dy = some b) :
    (scal x y = true ∧ decide (x = y) = b) ∨ ∃ p q, Dp K H x p ∧ Dp K H y q ∧ SeqAt.shaped p = true ∧ SeqAt.shaped q = true ∧ PyData.eqv p q = b := by
  have gen : ((toPyH h dx).bind fun p => (toPyH h dy).bind fun q => if SeqAt.shaped p = true ∧ SeqAt.shaped q = true then some (PyData.eqv p q) else none) = some b →
      ∃ p q, Dp K H x p ∧ Dp K H y q ∧ SeqAt.shaped p = true ∧ SeqAt.shaped q = true ∧ PyData.eqv p q = b := fun e => by
    cases hp : toPyH h dx with
    | none => rw [hp] at e; cases e
    | some p =>
      rw [hp] at e
      cases hq : toPyH h dy with
      | none => rw [hq] at e; cases e
      | some q =>
        rw [hq] at e
        dsimp only [Option.bind] at e
        split at e
        · rename_i hs
          exact ⟨p, q, toPyH_ok hh rx hp, toPyH_ok hh ry hq, hs.1, hs.2, Option.some.inj e⟩
        · cases e
  unfold eqD at e
  split at e
  · have r1 : x = .non := rx
    have r2 : y = .non := ry
    subst r1 r2
    exact .inl ⟨rfl, by rw [← Option.some.inj e]; rfl⟩
  · rename_i i j
    have r1 : x = .int i := rx
    have r2 : y = .int j := ry
    subst r1 r2
    refine .inl ⟨rfl, ?_⟩
    rw [← Option.some.inj e]
    simp
  · rename_i i j
    have r1 : x = .bl i := rx
    have r2 : y = .bl j := ry
    subst r1 r2
    refine .inl ⟨rfl, ?_⟩
    rw [← Option.some.inj e]
    simp
  · rename_i i j
    have r1 : x = .str ⟨i.toArray⟩ := rx
    have r2 : y = .str ⟨j.toArray⟩ := ry
    subst r1 r2
    refine .inl ⟨rfl, ?_⟩
    rw [← Option.some.inj e]
    simp
  · exact .inr (gen e)
section
variable {X : Cx}
theorem o_eq (hu : X.A.units + 64 < cLine) : OpR X (compareOp .Eq) (RdP X.K pEq) := by
  refine opr_imp (op_eq.or (op_eqD hu)) fun x y H Q ⟨m, h, dx, dy, hh, rx, ry, f⟩ => ?_
  unfold pEq at f
  cases e : eqD h dx dy with
  | none => rw [e] at f; exact f.elim
  | some b =>
    rw [e] at f
    rcases eqD_ok hh rx ry e with ⟨h1, h2⟩ | ⟨p, q, h1, h2, h3, h4, h5⟩
    · exact .inl ⟨h1, by rw [h2]; exact f.same hh rfl⟩
    · exact .inr ⟨p, q, h1, h2, h3, h4, by rw [h5]; exact f.same hh rfl⟩
theorem o_ne (hu : X.A.units + 64 < cLine) : OpR X (compareOp .NotEq) (RdP X.K pNe) := by
  refine opr_imp (op_ne.or (op_neD hu)) fun x y H Q ⟨m, h, dx, dy, hh, rx, ry, f⟩ => ?_
  unfold pNe at f
  cases e : eqD h dx dy with
  | none => rw [e] at f; exact f.elim
  | some b =>
    rw [e] at f
    rcases eqD_ok hh rx ry e with ⟨h1, h2⟩ | ⟨p, q, h1, h2, h3, h4, h5⟩
    · exact .inl ⟨h1, by rw [h2]; exact f.same hh rfl⟩
    · exact .inr ⟨p, q, h1, h2, h3, h4, by rw [h5]; exact f.same hh rfl⟩
end
def isNon : D → Bool
  | .non => true
  | _ => false
def pIsN : P2 := fun x y h => if isNon y = true then some (.bl (isNon x), h) else none
def pNotN : P2 := fun x y h => if isNon y = true then some (.bl (!isNon x), h) else none
theorem isNon_ok {K : PySem.W.Frag} {m : List Addr} {H : Hp} {d : D} {v : V} (r : RepD K m H d v) : decide (v = .non) = isNon d := by
  cases d with
  | non => have r' : v = .non := r; subst r'; rfl
  | bl b => have r' : v = .bl b := r; subst r'; rfl
  | int b => have r' : v = .int b := r; subst r'; rfl
  | str b => have r' : v = .str _ := r; subst r'; rfl
  | tup b => obtain ⟨a, vs, e, _⟩ := r; subst e; rfl
  | ref b => obtain ⟨a, _, e⟩ := r; subst e; rfl
  | adr b => have r' : v = .ref _ := r; subst r'; rfl
  | ty b => have r' : v = .ty _ := r; subst r'; rfl
section
variable {X : Cx}
theorem o_isN : OpR X (compareOp .Is) (RdP X.K pIsN) := by
  refine opr_imp op_isN fun x y H Q ⟨m, h, dx, dy, hh, rx, ry, f⟩ => ?_
  unfold pIsN at f
  split at f
  · rename_i e
    rw [← isNon_ok ry] at e
    exact ⟨of_decide_eq_true e, by rw [isNon_ok rx]; exact f.same hh rfl⟩
  · exact f.elim
theorem o_notN : OpR X (compareOp .IsNot) (RdP X.K pNotN) := by
  refine opr_imp op_notN fun x y H Q ⟨m, h, dx, dy, hh, rx, ry, f⟩ => ?_
  unfold pNotN at f
  split at f
  · rename_i e
    rw [← isNon_ok ry] at e
    exact ⟨of_decide_eq_true e, by rw [isNon_ok rx]; exact f.same hh rfl⟩
  · exact f.elim
end
/-! ### x in a list or tuple of flat things; a sign in a text -/
def flatD : D → Bool
  | .non => true
  | .bl _ => true
  | .int _ => true
  | .str _ => true
  | _ => false
def eqF : D → D → Bool
  | .non, .non => true
  | .bl a, .bl b => a == b
  | .bl a, .int b => (if a then 1 else 0) == b
  | .int a, .bl b => a == (if b then 1 else 0)
  | .int a, .int b => a == b
  | .str a, .str b => a == b
  | _, _ => false
def seqOf (h : HH) : D → Option (List D)
  | .tup xs => some xs
  | .ref n => itemsL h n
  | _ => none
def inD (h : HH) (x y : D) : Option Bool := match x, y with
  | .str [c], .str z => some (decide (c ∈ z))
  | x, y => match seqOf h y with
    | some ys => if flatD x = true ∧ ys.all flatD = true then some (ys.any fun z => eqF z x) else none
    | none => none
def pIn : P2 := fun x y h => (inD h x y).map fun b => (.bl b, h)
def pNotIn : P2 := fun x y h => (inD h x y).map fun b => (.bl (!b), h)
theorem seqOf_ok {K : PySem.W.Frag} {m : List Addr} {H : Hp} {h : HH} {d : D} {v : V} {xs : List D} (hh : HeapR K m H h) (r : RepD K m H d v) (e : seqOf h d = some xs) : ∃ a vs, v = .ref a ∧ (SqL K H a vs ∨ SqT K H a vs) ∧ RepL K m H xs vs := by
  cases d with
  | tup ys =>
    cases e
    obtain ⟨a, vs, e1, q, t⟩ := r
    exact ⟨a, vs, e1, .inr q, t⟩
  | ref n =>
    obtain ⟨a, e1, e2⟩ := r
    obtain ⟨vs, q, t⟩ := itemsL_ok hh e1 e
    exact ⟨a, vs, e2, .inl q, t⟩
  | _ => cases e
theorem flatD_ok {K : PySem.W.Frag} {m : List Addr} {H : Hp} {d : D} {v : V} (r : RepD K m H d v) (f : flatD d = true) : flatV v = true := by
  cases d with
  | non => have r' : v = .non := r; subst r'; rfl
  | bl b => have r' : v = .bl b := r; subst r'; rfl
  | int b => have r' : v = .int b := r; subst r'; rfl
  | str b => have r' : v = .str _ := r; subst r'; rfl
  | _ => cases f
theorem eqF_ok {K : PySem.W.Frag} {m : List Addr} {H : Hp} {d e : D} {v w : V} (r : RepD K m H d v) (r2 : RepD K m H e w) (f : flatD d = true) (f2 : flatD e = true) : eqV v w = eqF d e := by
  cases d with
  | non =>
    have r' : v = .non := r
    subst r'
    cases e with
    | non => have r' : w = .non := r2; subst r'; rfl
    | bl b => have r' : w = .bl b := r2; subst r'; rfl
    | int b => have r' : w = .int b := r2; subst r'; rfl
    | str b => have r' : w = .str _ := r2; subst r'; rfl
    | _ => cases f2
  | bl b =>
    have r' : v = .bl b := r
    subst r'
    cases e with
    | non => have r' : w = .non := r2; subst r'; rfl
    | bl b => have r' : w = .bl b := r2; subst r'; rfl
    | int b => have r' : w = .int b := r2; subst r'; rfl
    | str b => have r' : w = .str _ := r2; subst r'; rfl
    | _ => cases f2
  | int b =>
    have r' : v = .int b := r
    subst r'
    cases e with
    | non => have r' : w = .non := r2; subst r'; rfl
    | bl b => have r' : w = .bl b := r2; subst r'; rfl
    | int b => have r' : w = .int b := r2; subst r'; rfl
    | str b => have r' : w = .str _ := r2; subst r'; rfl
    | _ => cases f2
  | str b =>
    have r' : v = .str _ := r
    subst r'
    cases e with
    | non => have r' : w = .non := r2; subst r'; rfl
    | bl b => have r' : w = .bl b := r2; subst r'; rfl
    | int b => have r' : w = .int b := r2; subst r'; rfl
    | str c =>
      have r' : w = .str _ := r2
      subst r'
      show (({ cps := b.toArray } : Str) == ({ cps := c.toArray } : Str)) = (b == c)
      rw [Bool.eq_iff_iff]
      simp
    | _ => cases f2
  | _ => cases f
theorem any_ok {K : PySem.W.Frag} {m : List Addr} {H : Hp} {d : D} {v : V} (r : RepD K m H d v) (f : flatD d = true) : ∀ {xs : List D} {vs : List V}, RepL K m H xs vs → xs.all flatD = true → vs.all flatV = true ∧ inV v vs = xs.any fun z => eqF z d
  | [], vs, t, _ => by
    have t' : vs = [] := t
    subst t'
    exact ⟨rfl, rfl⟩
  | x :: xs, vs, t, g => by
    obtain ⟨w, ws, e, q, t'⟩ := t
    subst e
    rw [List.all_cons, Bool.and_eq_true] at g
    obtain ⟨h1, h2⟩ := any_ok r f t' g.2
    refine ⟨by rw [List.all_cons, h1, flatD_ok q g.1]; rfl, ?_⟩
    show (eqV w v || inV v ws) = _
    rw [h2, eqF_ok q r g.1 f, List.any_cons]
theorem inD_ok {K : PySem.W.Frag} {m : List Addr} {H : Hp} {h : HH} {dx dy : D} {x y : V} {b : Bool} (hh : HeapR K m H h) (rx : RepD K m H dx x) (ry : RepD K m H dy y) (e : inD h dx dy = some b) :
    (∃ (c : Nat) (z : Str), x = .str ⟨#[c]⟩ ∧ y = .str z ∧ decide (c ∈ z.cps.toList) = b) ∨ ∃ p xs, y = .ref p ∧ (SqL K H p xs ∨ SqT K H p xs) ∧ flatV x = true ∧ xs.all flatV = true ∧ inV x xs = b := by
  unfold inD at e
  split at e
  · rename_i c z
    exact .inl ⟨c, ⟨z.toArray⟩, rx, ry, by rw [← Option.some.inj e]⟩
  · rename_i c z
    cases q : seqOf h dy with
    | none => rw [q] at e; cases e
    | some ys =>
      rw [q] at e
      dsimp only at e
      split at e
      · rename_i hs
        obtain ⟨a, vs, e1, q1, t⟩ := seqOf_ok hh ry q
        obtain ⟨h1, h2⟩ := any_ok rx hs.1 t hs.2
        exact .inr ⟨a, vs, e1, q1, flatD_ok rx hs.1, h1, h2.trans (Option.some.inj e)⟩
      · cases e
section
variable {X : Cx}
theorem o_in : OpR X (compareOp .In) (RdP X.K pIn) := by
  refine opr_imp (op_in_sign.or op_in_seq) fun x y H Q ⟨m, h, dx, dy, hh, rx, ry, f⟩ => ?_
  unfold pIn at f
  cases e : inD h dx dy with
  | none => rw [e] at f; exact f.elim
  | some b =>
    rw [e] at f
    rcases inD_ok hh rx ry e with ⟨c, z, h1, h2, h3⟩ | ⟨p, xs, h1, h2, h3, h4, h5⟩
    · exact .inl ⟨c, z, h1, h2, by rw [h3]; exact f.same hh rfl⟩
    · exact .inr ⟨p, xs, h1, h2, h3, h4, by rw [if_neg Bool.false_ne_true, h5]; exact f.same hh rfl⟩
theorem o_notin : OpR X (compareOp .NotIn) (RdP X.K pNotIn) := by
  refine opr_imp (op_notIn_sign.or op_notIn_seq) fun x y H Q ⟨m, h, dx, dy, hh, rx, ry, f⟩ => ?_
  unfold pNotIn at f
  cases e : inD h dx dy with
  | none => rw [e] at f; exact f.elim
  | some b =>
    rw [e] at f
    rcases inD_ok hh rx ry e with ⟨c, z, h1, h2, h3⟩ | ⟨p, xs, h1, h2, h3, h4, h5⟩
    · exact .inl ⟨c, z, h1, h2, by rw [h3]; exact f.same hh rfl⟩
    · exact .inr ⟨p, xs, h1, h2, h3, h4, by rw [if_pos rfl, h5]; exact f.same hh rfl⟩
end
end Py
set_option Elab.async false
set_option linter.all false
set_option maxRecDepth 100000
set_option maxHeartbeats 4000000
namespace Py
open PySem PySem.Spec PyProof.Rows L2

/-! ## one sign in a text -/
theorem at_one (l : List Nat) (c i : Nat) : StrLaws.At (⟨l.toArray⟩ : Str) ⟨#[c]⟩ (⟨l.toArray⟩ : Str).length i ↔ l[i]? = some c := StrLaws.subAt_one ⟨l.toArray⟩ c i
def hitsFrom (c : Nat) (l : List Nat) (r : List Nat) : List Nat := r.filter fun i => l[i]? == some c
theorem occ_run (c : Nat) (l : List Nat) (lim : Nat) : ∀ (n a : Nat) (st : Array Nat × Nat), st.1.size + n ≤ lim → st.2 ≤ a →
    (forIn (List.range' a n) st (StrLaws.occBody (⟨l.toArray⟩ : Str) ⟨#[c]⟩ (⟨l.toArray⟩ : Str).length lim)).run.1.toList = st.1.toList ++ hitsFrom c l (List.range' a n)
  | 0, a, st, _, _ => by simp [hitsFrom]
  | n + 1, a, st, h1, h2 => by
    rw [List.range'_succ, List.forIn_cons]
    unfold StrLaws.occBody
    by_cases hc : l[a]? = some c
    · have hA := (at_one l c a).mpr hc
      rw [if_pos ⟨⟨⟨by omega, h2⟩, hA.1⟩, hA.2⟩]
      have ih := occ_run c l lim n (a + 1) (st.1.push a, a + 1) (by simp only [Array.size_push]; omega) (Nat.le_refl _)
      have e : hitsFrom c l (a :: List.range' (a + 1) n) = a :: hitsFrom c l (List.range' (a + 1) n) := by
        unfold hitsFrom
        rw [List.filter_cons, hc, if_pos (by simp)]
      rw [e]
      refine Eq.trans ih ?_
      simp
    · have hA : ¬ StrLaws.At (⟨l.toArray⟩ : Str) ⟨#[c]⟩ (⟨l.toArray⟩ : Str).length a := fun z => hc ((at_one l c a).mp z)
      rw [if_neg fun z => hA ⟨z.1.2, z.2⟩]
      have ih := occ_run c l lim n (a + 1) (st.1, st.2) (by simp only; omega) (by simp only; omega)
      have e : hitsFrom c l (a :: List.range' (a + 1) n) = hitsFrom c l (List.range' (a + 1) n) := by
        unfold hitsFrom
        rw [List.filter_cons, if_neg (by simpa using hc)]
      rw [e]
      exact ih
theorem hits_len (c : Nat) : ∀ (l pre : List Nat), (hitsFrom c (pre ++ l) (List.range' pre.length l.length)).length = l.count c
  | [], pre => by simp [hitsFrom]
  | x :: l, pre => by
    have ih := hits_len c l (pre ++ [x])
    rw [List.append_assoc, List.singleton_append, List.length_append] at ih
    rw [List.length_cons, List.range'_succ]
    have g : (pre ++ x :: l)[pre.length]? = some x := by simp
    unfold hitsFrom at ih ⊢
    rw [List.filter_cons, g, List.count_cons]
    by_cases hx : x = c
    · subst hx
      rw [if_pos (by simp), List.length_cons, if_pos (by simp)]
      exact congrArg (· + 1) ih
    · rw [if_neg (by simpa using hx), if_neg (by simpa using hx)]
      exact ih
theorem count_one (l : List Nat) (c : Nat) : Txt.count (⟨l.toArray⟩ : Str) ⟨#[c]⟩ = (l.count c : Nat) := by
  unfold Txt.count
  rw [StrLaws.occ_eq, Nat.sub_zero, Nat.add_comm]
  have e : (⟨l.toArray⟩ : Str).length = l.length := by simp [Str.length]
  have h := occ_run c l ((⟨l.toArray⟩ : Str).length + 1) (1 + (⟨l.toArray⟩ : Str).length) 0 (#[], 0) (by simp only [Array.size_empty]; omega) (Nat.le_refl _)
  rw [Nat.add_comm ((⟨l.toArray⟩ : Str).length)] at h
  rw [h, e]
  have g : hitsFrom c l (List.range' 0 (1 + l.length)) = hitsFrom c l (List.range' 0 l.length) := by
    rw [Nat.add_comm, List.range'_concat]
    unfold hitsFrom
    rw [List.filter_append]
    have : l[0 + 1 * l.length]? = none := by simp
    simp [this]
  have := hits_len c l []
  simp only [List.nil_append, List.length_nil] at this
  simp only [List.nil_append]
  rw [g, this]
/-- the last place of c -/
def lastAt (c : Nat) : List Nat → Option Nat
  | [] => none
  | x :: l => match lastAt c l with
    | some k => some (k + 1)
    | none => if x = c then some 0 else none
theorem lastAt_spec (c : Nat) : ∀ l : List Nat, (lastAt c l = none ∧ ∀ i : Nat, l[i]? ≠ some c) ∨ ∃ k : Nat, lastAt c l = some k ∧ l[k]? = some c ∧ ∀ i : Nat, k < i → l[i]? ≠ some c
  | [] => .inl ⟨rfl, fun i => by simp⟩
  | x :: l => by
    unfold lastAt
    rcases lastAt_spec c l with ⟨h1, h2⟩ | ⟨k, h1, h2, h3⟩
    · rw [h1]
      by_cases hx : x = c
      · refine .inr ⟨0, if_pos hx, by simp [hx], fun i hi => ?_⟩
        cases i with
        | zero => omega
        | succ i => simpa using h2 i
      · refine .inl ⟨if_neg hx, fun i => ?_⟩
        cases i with
        | zero => simpa using hx
        | succ i => simpa using h2 i
    · rw [h1]
      refine .inr ⟨k + 1, rfl, by simpa using h2, fun i hi => ?_⟩
      cases i with
      | zero => omega
      | succ i => simpa using h3 i (by omega)
theorem rfind_one (l : List Nat) (c : Nat) : Txt.rfind (⟨l.toArray⟩ : Str) ⟨#[c]⟩ = match lastAt c l with | some k => (k : Int) | none => -1 := by
  unfold Txt.rfind
  rcases StrLaws.last_spec (⟨l.toArray⟩ : Str) ⟨#[c]⟩ with ⟨h1, h2⟩ | ⟨j, h1, h2, h3⟩
  · rw [h1]
    rcases lastAt_spec c l with ⟨g1, _⟩ | ⟨k, _, g2, _⟩
    · rw [g1]
    · exact absurd ((at_one l c k).mpr g2) (h2 k)
  · rw [h1]
    have h2' := (at_one l c j).mp h2
    rcases lastAt_spec c l with ⟨_, g2⟩ | ⟨k, g1, g2, g3⟩
    · exact absurd h2' (g2 j)
    · rw [g1]
      have : j = k := by
        rcases Nat.lt_trichotomy j k with q | q | q
        · exact absurd ((at_one l c k).mpr g2) (h3 k q)
        · exact q
        · exact absurd h2' (g3 j q)
      rw [this]
theorem index_one (l : List Nat) (c k : Nat) (h : l[k]? = some c) (hn : ∀ j, j < k → l[j]? ≠ some c) : ∃ r, Builtin.Str.occurrences (⟨l.toArray⟩ : Str) ⟨#[c]⟩ 0 (⟨l.toArray⟩ : Str).length 1 = k :: r := by
  rcases StrLaws.occ_head (⟨l.toArray⟩ : Str) ⟨#[c]⟩ 1 (Nat.le_refl _) with ⟨_, h2⟩ | ⟨i, r, h1, h2, h3⟩
  · exact absurd ((at_one l c k).mpr h) (h2 k)
  · have h2' := (at_one l c i).mp h2
    have : i = k := by
      rcases Nat.lt_trichotomy i k with q | q | q
      · exact absurd h2' (hn i q)
      · exact q
      · exact absurd ((at_one l c k).mpr h) (h3 k q)
    subst this
    exact ⟨r, h1⟩

/-! ## subscripts -/
theorem RepL.atI {K : PySem.W.Frag} {m : List Addr} {H : Hp} {ds : List D} {vs : List V} {i : Int} {d : D} (r : RepL K m H ds vs) (e : L2.atI ds i = some d) : ∃ v, L2.atI vs i = some v ∧ RepD K m H d v := by
  unfold L2.atI at e ⊢
  rw [r.length]
  cases q : ixN ds.length i with
  | none => rw [q] at e; cases e
  | some j =>
    rw [q] at e
    exact r.get e
def pIdx : P2 := fun x y h => match x, y with
  | .str s, .int i => if s.length ≤ sizeLine then (L2.atI s i).map fun c => (.str [c], h) else none
  | x, .int i => (seqOf h x).bind fun xs => (L2.atI xs i).map fun d => (d, h)
  | _, _ => none
section
variable {X : Cx} {W : WX} {pos : Pos} {a b : Expr} {fa fb : ES}
theorem o_idx : IxR X (RdP X.K pIdx) := by
  refine ixr_imp ix_seq fun x y H Q ⟨m, h, dx, dy, hh, rx, ry, f⟩ => ?_
  unfold pIdx at f
  split at f
  · rename_i s i
    split at f
    · rename_i hz
      cases q : L2.atI s i with
      | none => rw [q] at f; exact f.elim
      | some c =>
        rw [q] at f
        exact .inr (.inr ⟨_, i, c, rx, ry, by simpa [Str.length] using hz, q, f.same hh rfl⟩)
    · exact f.elim
  · rename_i dx' i _
    cases q : seqOf h dx with
    | none => rw [q] at f; exact f.elim
    | some xs =>
      rw [q] at f
      dsimp only [Option.bind] at f
      cases q2 : L2.atI xs i with
      | none => rw [q2] at f; exact f.elim
      | some d =>
        rw [q2] at f
        obtain ⟨p, vs, e1, q3, t⟩ := seqOf_ok hh rx q
        obtain ⟨v, q4, t2⟩ := t.atI q2
        rcases q3 with q3 | q3
        · exact .inl ⟨p, vs, i, v, e1, ry, q3, q4, f.same hh t2⟩
        · exact .inr (.inl ⟨p, vs, i, v, e1, ry, q3, q4, f.same hh t2⟩)
  · exact f.elim
theorem c_idx (ha : PE X a (RdE X W fa)) (hb : PE X b (RdE X W fb)) (hs : PlainIx b := by exact fun _ _ => rfl) : PE X (.Subscript a b pos) (RdE X W (eBin pIdx fa fb)) := pe_imp (pe_ix o_idx ha hb hs) fun _ _ _ q => l_bin q
end

/-! ## slices -/
abbrev OS := Rho → HH → R (Option Int)
def oNone : OS := fun _ h => .ok none h
def oSome (f : ES) : OS := fun ρ h => (f ρ h).bind fun x h1 => match x with
  | .int i => .ok (some i) h1
  | _ => .bad
def cutL {α : Type} (xs : List α) (lo hi : Option Int) : List α := (xs.drop (HT.sIx xs.length 0 lo)).take (HT.sIx xs.length xs.length hi - HT.sIx xs.length 0 lo)
def pSl (x : D) (lo hi : Option Int) (h : HH) : Option (D × HH) := match x with
  | .str s => if s.length ≤ sizeLine then some (.str (cutL s lo hi), h) else none
  | .tup xs => some (.tup (cutL xs lo hi), h)
  | .ref n => (itemsL h n).map fun xs => (.ref h.length, h ++ [.lst (cutL xs lo hi)])
  | _ => none
def eSl (f : ES) (lo hi : OS) : ES := fun ρ h => (f ρ h).bind fun x h1 => (lo ρ h1).bind fun l h2 => (hi ρ h2).bind fun u h3 => R.of (pSl x l u h3)
theorem cut_ok {K : PySem.W.Frag} {m : List Addr} {H : Hp} {ds : List D} {vs : List V} (r : RepL K m H ds vs) (lo hi : Option Int) : RepL K m H (cutL ds lo hi) (cutV vs lo hi) := by
  unfold cutL cutV
  rw [r.length]
  exact (r.drop _).take _
theorem slr_imp {X : Cx} {r r' : V → Option Int → Option Int → Hp → VK → Prop} (h : SlR X r) (i : ∀ x lo hi H Q, r' x lo hi H Q → r x lo hi H Q) : SlR X r' := fun pins s σ H x v vl vu lo hi sl Q I rx hs pl pu q => h pins s σ H x v vl vu lo hi sl Q I rx hs pl pu (i x lo hi H Q q)
section
variable {X : Cx} {W : WX} {pos p2 : Pos} {a : Expr} {elo ehi : Option Expr} {fa : ES} {flo fhi : OS}
abbrev RdO (X : Cx) (W : WX) (f : OS) : TO := Rd X.K X.mg W (fun _ _ (a b : Option Int) => a = b) f
theorem c_onone : PO X none (RdO X W oNone) := ⟨fun pins s σ H Q I ⟨m, ρ, h, hh, he, fin⟩ => po_none.run pins s σ H Q I (fin m H none (List.prefix_refl _) (.refl _) hh rfl)⟩
theorem c_osome {e : Expr} {f : ES} (h : PE X e (RdE X W f)) : PO X (some e) (RdO X W (oSome f)) := ⟨fun pins s σ H Q I ⟨m, ρ, h0, hh, he, fin⟩ => (po_some h).run pins s σ H Q I (by
  refine (Rd.seq hh he fin).imp fun x H1 ⟨m1, h1, dx, p1, k1, hh1, he1, r1, fin1⟩ => ?_
  cases dx with
  | int i => exact ⟨i, r1, fin1 m1 H1 _ (List.prefix_refl _) (.refl _) hh1 rfl⟩
  | _ => exact fin1.elim)⟩
def RdSl (K : PySem.W.Frag) : V → Option Int → Option Int → Hp → VK → Prop := fun x lo hi H Q => ∃ m h dx, HeapR K m H h ∧ RepD K m H dx x ∧ FinP K m H (pSl dx lo hi h) Q
theorem o_sl : SlR X (RdSl X.K) := by
  refine slr_imp (sl_list.or (sl_tupA.or sl_str)) fun x lo hi H Q ⟨m, h, dx, hh, rx, f⟩ => ?_
  cases dx with
  | str s =>
    dsimp only [pSl] at f
    split at f
    · rename_i hz
      refine .inr (.inr ⟨_, rx, by simpa [Str.length] using hz, f.same hh ?_⟩)
      show V.str _ = V.str _
      unfold cutS cutL
      simp [Str.length]
    · exact f.elim
  | tup xs =>
    obtain ⟨a, vs, e1, q, t⟩ := rx
    refine .inr (.inl ⟨a, vs, e1, q, fun z => ?_, fun _ => fin_tup hh (cut_ok t lo hi) f⟩)
    have z2 : cutL xs lo hi = xs := by
      unfold cutL
      rw [t.length] at z
      rw [z.1, z.2]
      simp
    rw [show pSl (D.tup xs) lo hi h = some (.tup xs, h) by dsimp only [pSl]; rw [z2]] at f
    exact f.same hh ⟨a, vs, rfl, q, t⟩
  | ref n =>
    obtain ⟨a, e1, e2⟩ := rx
    dsimp only [pSl] at f
    cases q : itemsL h n with
    | none => rw [q] at f; exact f.elim
    | some xs =>
      rw [q] at f
      obtain ⟨vs, q1, t⟩ := itemsL_ok hh e1 q
      exact .inl ⟨a, vs, e2, q1, fin_lst hh (cut_ok t lo hi) f⟩
  | _ => exact f.elim
theorem c_sl (ha : PE X a (RdE X W fa)) (hl : PO X elo (RdO X W flo)) (hu : PO X ehi (RdO X W fhi)) : PE X (.Subscript a (.Slice elo ehi none p2) pos) (RdE X W (eSl fa flo fhi)) := by
  refine pe_imp (pe_slice o_sl ha hl hu) fun σ H Q ⟨m, ρ, h, hh, he, fin⟩ => ?_
  refine (Rd.seq hh he fin).imp fun x H1 ⟨m1, h1, dx, p1, k1, hh1, he1, r1, fin1⟩ => ?_
  refine (Rd.seq hh1 he1 fin1).imp fun y H2 ⟨m2, h2, dl, p2, k2, hh2, he2, r2, fin2⟩ => ?_
  refine (Rd.seq hh2 he2 fin2).imp fun z H3 ⟨m3, h3, du, p3, k3, hh3, he3, r3, fin3⟩ => ?_
  subst r2 r3
  exact ⟨m3, h3, dx, hh3, (r1.mono p2 k2).mono p3 k3, fin3.toP⟩
end

/-! ## built-in functions -/
def eCallB (g : PL) (fa : AS) : ES := fun ρ h => (fa ρ h).bind fun xs h1 => R.of (g xs h1)
theorem rep1 {K : PySem.W.Frag} {m : List Addr} {H : Hp} {d : D} {vs : List V} (r : RepL K m H [d] vs) : ∃ v, vs = [v] ∧ RepD K m H d v := by
  obtain ⟨v, ws, e, q, t⟩ := r
  have t' : ws = [] := t
  subst t'
  exact ⟨v, e, q⟩
theorem rep2 {K : PySem.W.Frag} {m : List Addr} {H : Hp} {d e : D} {vs : List V} (r : RepL K m H [d, e] vs) : ∃ v w, vs = [v, w] ∧ RepD K m H d v ∧ RepD K m H e w := by
  obtain ⟨v, ws, e, q, t⟩ := r
  obtain ⟨w, e2, q2⟩ := rep1 t
  subst e2
  exact ⟨v, w, e, q, q2⟩
theorem rep0 {K : PySem.W.Frag} {m : List Addr} {H : Hp} {vs : List V} (r : RepL K m H [] vs) : vs = [] := r
section
variable {X : Cx} {W : WX} {pos p : Pos} {x : Str} {e : Expr} {es : List Expr} {fa : AS} {g : PL}
theorem l_callB {σ : L2.St} {H : Hp} {Q : VK} (q : RdE X W (eCallB g fa) σ H Q) : tCB (RdL X.K g) (RdA X W fa) σ H Q := by
  obtain ⟨m, ρ, h, hh, he, fin⟩ := q
  refine (Rd.seq hh he fin).imp fun x H1 ⟨m1, h1, dx, p1, k1, hh1, he1, r1, fin1⟩ => ?_
  exact ⟨m1, h1, dx, hh1, r1, fin1.toP⟩
theorem c_callB {id : String} (hc : CallR X (.builtin id) (RdL X.K g)) (hm : X.mg x = none) (hv : bootBuiltins x = some (.builtin id)) (ha : PA X (e :: es) (RdA X W fa)) (hg : Gl X x := by rfl) (hn : x ≠ "__name__" := by decide) (hdb : (x == ("__debug__" : Str)) = false := by decide)
    (he : starEach (e :: es) X.env = (false, eval e X.env) :: starEach es X.env := by rfl) (hpl : (backTo pos (starEach es X.env)).any (·.1) = false := by rfl) : PE X (.Call (.Name x p) (e :: es) [] pos) (RdE X W (eCallB g fa)) :=
  pe_imp (pe_callB hc hg hm hv ha hn hdb he hpl) fun _ _ _ q => l_callB q
theorem c_callTy {T : String} (hc : CallR X (.type T) (RdL X.K g)) (hm : X.mg x = none) (hv : bootBuiltins x = some (.type T)) (ha : PA X (e :: es) (RdA X W fa)) (hg : Gl X x := by rfl) (hn : x ≠ "__name__" := by decide) (hdb : (x == ("__debug__" : Str)) = false := by decide)
    (he : starEach (e :: es) X.env = (false, eval e X.env) :: starEach es X.env := by rfl) (hpl : (backTo pos (starEach es X.env)).any (·.1) = false := by rfl) : PE X (.Call (.Name x p) (e :: es) [] pos) (RdE X W (eCallB g fa)) :=
  pe_imp (pe_callTy hc hg hm hv ha hn hdb he hpl) fun _ _ _ q => l_callB q
/-- a built-in class as a value -/
theorem c_ty {T : String} (hm : X.mg x = none) (hv : bootBuiltins x = some (.type T)) (hg : Gl X x := by rfl) (hn : x ≠ "__name__" := by decide) (hd : (x == ("__debug__" : Str)) = false := by decide) : PE X (.Name x pos) (RdE X W (eC (.ty T))) :=
  pe_imp (pe_bltn (v := .ty T) hg hm hv rfl hn hd) fun σ H Q ⟨m, ρ, h, hh, he, fin⟩ => fin m H _ (List.prefix_refl _) (.refl _) hh rfl
end
def lenD (h : HH) : D → Option Nat
  | .str s => if s.length ≤ sizeLine then some s.length else none
  | d => (seqOf h d).map List.length
def pLen : PL := fun xs h => match xs with
  | [d] => (lenD h d).map fun n => (.int n, h)
  | _ => none
def pAbs : PL := fun xs h => match xs with
  | [.int i] => some (.int (if i < 0 then -i else i), h)
  | _ => none
def pMax2 : PL := fun xs h => match xs with
  | [.int i, .int j] => some (.int (if j > i then j else i), h)
  | _ => none
def pMin2 : PL := fun xs h => match xs with
  | [.int i, .int j] => some (.int (if j < i then j else i), h)
  | _ => none
def pInt : PL := fun xs h => match xs with
  | [.int i] => some (.int i, h)
  | [.bl b] => some (.int (if b then 1 else 0), h)
  | _ => none
/-- the signs of an int's text -/
def signs (i : Int) : List Nat := (Str.ofString (toString i)).cps.toList
def pStr : PL := fun xs h => match xs with
  | [.int i] => if i.natAbs.log2 < 1920 then some (.str (signs i), h) else none
  | _ => none
def pTuple : PL := fun xs h => match xs with
  | [.tup ys] => some (.tup ys, h)
  | [.ref n] => (itemsL h n).map fun ys => (.tup ys, h)
  | _ => none
def pList : PL := fun xs h => match xs with
  | [d] => (seqOf h d).map fun ys => (.ref h.length, h ++ [.lst ys])
  | _ => none
def kindD (d : D) : Option String := match d with
  | .non => some "NoneType"
  | .bl _ => some "bool"
  | .int _ => some "int"
  | .str _ => some "str"
  | .tup _ => some "tuple"
  | _ => none
/-- isinstance of plain data and one of the four classes int, bool, str, tuple -/
def isiD (d : D) (T : String) : Option Bool := match d, T with
  | .non, "int" => some false | .non, "bool" => some false | .non, "str" => some false | .non, "tuple" => some false
  | .bl _, "int" => some true | .bl _, "bool" => some true | .bl _, "str" => some false | .bl _, "tuple" => some false
  | .int _, "int" => some true | .int _, "bool" => some false | .int _, "str" => some false | .int _, "tuple" => some false
  | .str _, "int" => some false | .str _, "bool" => some false | .str _, "str" => some true | .str _, "tuple" => some false
  | .tup _, "int" => some false | .tup _, "bool" => some false | .tup _, "str" => some false | .tup _, "tuple" => some true
  | _, _ => none
def pIsi : PL := fun xs h => match xs with
  | [d, .ty T] => (isiD d T).map fun b => (.bl b, h)
  | _ => none
section
variable {X : Cx}
theorem len_ok {K : PySem.W.Frag} {m : List Addr} {H : Hp} {h : HH} {d : D} {v : V} {n : Nat} (hh : HeapR K m H h) (r : RepD K m H d v) (e : lenD h d = some n) : LenV K v H n := by
  unfold lenD at e
  split at e
  · rename_i s
    have r' : v = .str ⟨s.toArray⟩ := r
    subst r'
    split at e
    · rename_i hz
      refine ⟨by simpa [Str.length] using hz, ?_⟩
      rw [← Option.some.inj e]
      simp [Str.length]
    · cases e
  · cases q : seqOf h d with
    | none => rw [q] at e; cases e
    | some xs =>
      rw [q] at e
      obtain ⟨a, vs, e1, q1, t⟩ := seqOf_ok hh r q
      subst e1
      have hl : n = vs.length := by rw [t.length]; exact (Option.some.inj e).symm
      rcases q1 with q1 | q1
      · exact .inl ⟨vs, q1, hl⟩
      · exact .inr ⟨vs, q1, hl⟩
theorem b_len : CallR X (.builtin "len") (RdL X.K pLen) := by
  refine callr_imp call_len fun xs H Q ⟨m, h, ds, hh, r, f⟩ => ?_
  unfold pLen at f
  split at f
  · rename_i d
    cases q : lenD h d with
    | none => rw [q] at f; exact f.elim
    | some n =>
      rw [q] at f
      obtain ⟨v, e1, r1⟩ := rep1 r
      exact ⟨v, n, e1, len_ok hh r1 q, f.same hh rfl⟩
  · exact f.elim
theorem b_abs : CallR X (.builtin "abs") (RdL X.K pAbs) := by
  refine callr_imp call_abs fun xs H Q ⟨m, h, ds, hh, r, f⟩ => ?_
  unfold pAbs at f
  split at f
  · rename_i i
    obtain ⟨v, e1, r1⟩ := rep1 r
    exact ⟨i, by rw [e1, show v = .int i from r1], f.same hh rfl⟩
  · exact f.elim
theorem b_max2 (hc : X.calm = true) : CallR X (.builtin "max") (RdL X.K pMax2) := by
  refine callr_imp (call_max2 hc) fun xs H Q ⟨m, h, ds, hh, r, f⟩ => ?_
  unfold pMax2 at f
  split at f
  · rename_i i j
    obtain ⟨v, w, e1, r1, r2⟩ := rep2 r
    exact ⟨i, j, by rw [e1, show v = .int i from r1, show w = .int j from r2], f.same hh rfl⟩
  · exact f.elim
theorem b_min2 (hc : X.calm = true) : CallR X (.builtin "min") (RdL X.K pMin2) := by
  refine callr_imp (call_min2 hc) fun xs H Q ⟨m, h, ds, hh, r, f⟩ => ?_
  unfold pMin2 at f
  split at f
  · rename_i i j
    obtain ⟨v, w, e1, r1, r2⟩ := rep2 r
    exact ⟨i, j, by rw [e1, show v = .int i from r1, show w = .int j from r2], f.same hh rfl⟩
  · exact f.elim
theorem b_int : CallR X (.type "int") (RdL X.K pInt) := by
  refine callr_imp call_int1 fun xs H Q ⟨m, h, ds, hh, r, f⟩ => ?_
  unfold pInt at f
  split at f
  · rename_i i
    obtain ⟨v, e1, r1⟩ := rep1 r
    exact .inl ⟨i, by rw [e1, show v = .int i from r1], f.same hh rfl⟩
  · rename_i i
    obtain ⟨v, e1, r1⟩ := rep1 r
    exact .inr ⟨i, by rw [e1, show v = .bl i from r1], f.same hh rfl⟩
  · exact f.elim
theorem b_str : CallR X (.type "str") (RdL X.K pStr) := by
  refine callr_imp call_str_int fun xs H Q ⟨m, h, ds, hh, r, f⟩ => ?_
  unfold pStr at f
  split at f
  · rename_i i
    split at f
    · rename_i hz
      obtain ⟨v, e1, r1⟩ := rep1 r
      exact ⟨i, by rw [e1, show v = .int i from r1], hz, f.same hh rfl⟩
    · exact f.elim
  · exact f.elim
theorem b_tuple : CallR X (.type "tuple") (RdL X.K pTuple) := by
  refine callr_imp call_tuple_of fun xs H Q ⟨m, h, ds, hh, r, f⟩ => ?_
  unfold pTuple at f
  split at f
  · rename_i ys
    obtain ⟨v, e1, a, vs, e2, q, t⟩ := rep1 r
    exact ⟨a, vs, by rw [e1, e2], .inr ⟨q, f.same hh ⟨a, vs, rfl, q, t⟩⟩⟩
  · rename_i n
    cases q : itemsL h n with
    | none => rw [q] at f; exact f.elim
    | some ys =>
      rw [q] at f
      obtain ⟨v, e1, a, e2, e3⟩ := rep1 r
      obtain ⟨vs, q1, t⟩ := itemsL_ok hh e2 q
      exact ⟨a, vs, by rw [e1, e3], .inl ⟨q1, fin_tup hh t f⟩⟩
  · exact f.elim
theorem b_list : CallR X (.type "list") (RdL X.K pList) := by
  refine callr_imp call_list_of fun xs H Q ⟨m, h, ds, hh, r, f⟩ => ?_
  unfold pList at f
  split at f
  · rename_i d
    cases q : seqOf h d with
    | none => rw [q] at f; exact f.elim
    | some ys =>
      rw [q] at f
      obtain ⟨v, e1, r1⟩ := rep1 r
      obtain ⟨a, vs, e2, q1, t⟩ := seqOf_ok hh r1 q
      exact ⟨a, vs, by rw [e1, e2], q1, fin_lst hh t f⟩
  · exact f.elim
theorem ty_tup {K : PySem.W.Frag} {H : Hp} {a : Addr} {vs : List V} (q : SqT K H a vs) : TyX K H (.ref a) (.type "tuple") := by
  rcases q with (q | ⟨o, q⟩) | ⟨o, its, n, h1, h2, _⟩
  · exact .base (.tup q)
  · exact .fTuple q
  · exact .kTuple h1 h2
theorem b_isi : CallR X (.builtin "isinstance") (RdL X.K pIsi) := by
  refine callr_imp call_isi fun xs H Q ⟨m, h, ds, hh, r, f⟩ => ?_
  unfold pIsi at f
  split at f
  · rename_i d T
    obtain ⟨v, w, e1, r1, r2⟩ := rep2 r
    have r2' : w = .ty T := r2
    cases q : isiD d T with
    | none => rw [q] at f; exact f.elim
    | some b =>
      rw [q] at f
      have fin := f.same hh (v := .bl b) rfl
      unfold isiD at q
      split at q <;> first
        | (cases q; done)
        | (cases q
           first
             | (have r1' : v = .non := r1
                subst r1'
                exact ⟨_, _, _, _, _, e1.trans (by rw [r2']), .ty _, .base .non, kit_ty (by decide +kernel), fin⟩)
             | (have r1' : v = .bl _ := r1
                subst r1'
                exact ⟨_, _, _, _, _, e1.trans (by rw [r2']), .ty _, .base (.bl _), kit_ty (by decide +kernel), fin⟩)
             | (have r1' : v = .int _ := r1
                subst r1'
                exact ⟨_, _, _, _, _, e1.trans (by rw [r2']), .ty _, .base (.int _), kit_ty (by decide +kernel), fin⟩)
             | (have r1' : v = .str _ := r1
                subst r1'
                exact ⟨_, _, _, _, _, e1.trans (by rw [r2']), .ty _, .base (.str _), kit_ty (by decide +kernel), fin⟩)
             | (obtain ⟨a, vs, e2, q1, t⟩ := r1
                subst e2
                exact ⟨_, _, _, _, _, e1.trans (by rw [r2']), .ty _, ty_tup q1, kit_ty (by decide +kernel), fin⟩))
  · exact f.elim
end

/-! ## methods of built-in classes -/
abbrev PM := D → List D → HH → Option (D × HH)
def RdM (K : PySem.W.Frag) (g : PM) : V → List V → Hp → VK → Prop := fun x xs H Q => ∃ m h dx ds, HeapR K m H h ∧ RepD K m H dx x ∧ RepL K m H ds xs ∧ FinP K m H (g dx ds h) Q
/-- is it of that class -/
def tyD (T : String) (d : D) (h : HH) : Bool := match d with
  | .str _ => T == "str"
  | .ref n => T == "list" && (itemsL h n).isSome
  | _ => false
def eMeth (T : String) (g : PM) (fo : ES) (fa : AS) : ES := fun ρ h => (fo ρ h).bind fun x h1 => if tyD T x h1 = true then (fa ρ h1).bind fun xs h2 => R.of (g x xs h2) else .bad
theorem tyD_ok {K : PySem.W.Frag} {m : List Addr} {H : Hp} {h : HH} {d : D} {v : V} {T : String} (hh : HeapR K m H h) (r : RepD K m H d v) (e : tyD T d h = true) : tyV K T v H := by
  cases d with
  | str s =>
    have r' : v = .str _ := r
    subst r'
    exact beq_iff_eq.mp e
  | ref n =>
    obtain ⟨a, e1, e2⟩ := r
    subst e2
    dsimp only [tyD] at e
    rw [Bool.and_eq_true] at e
    obtain ⟨xs, q⟩ := Option.isSome_iff_exists.mp e.2
    obtain ⟨vs, q1, _⟩ := itemsL_ok hh e1 q
    exact .inl ⟨beq_iff_eq.mp e.1, vs, q1⟩
  | _ => cases e
section
variable {X : Cx} {W : WX} {o e : Expr} {es : List Expr} {fo : ES} {fa : AS} {name : Str} {apos cpos : Pos} {T id : String} {g : PM}
theorem c_meth (pa : PlainAttrs T) (slot : Slot T name id) (hty : typeOf (.builtin id) = pure (.type "method_descriptor")) (hm : MtR X id (RdM X.K g)) (ho : PE X o (RdE X W fo)) (ha : PA X (e :: es) (RdA X W fa))
    (hbase : attributeBase o name X.env (eval o X.env) = eval o X.env := by rfl)
    (hfew : ((backTo cpos (starEach (e :: es) X.env)).all (fun x => !x.1) && (backToKw cpos (keywordEach [] X.env)).all (fun x => x.1.isSome)
      && decide ((e :: es).length + ([] : List Keyword).length + (if ([] : List Keyword).isEmpty then 0 else 1) < 30)) = true := by rfl)
    (hline : (apos.endLine == cpos.line) = true := by rfl) (hs : starEach (e :: es) X.env = (false, eval e X.env) :: starEach es X.env := by rfl) (hplain : (backTo cpos (starEach es X.env)).any (·.1) = false := by rfl) :
    PE X (.Call (.Attribute o name apos) (e :: es) [] cpos) (RdE X W (eMeth T g fo fa)) := by
  refine pe_imp (pe_bm pa slot hty hm ho ha hbase hfew hline hs hplain) fun σ H Q ⟨m, ρ, h, hh, he, fin⟩ => ?_
  refine (Rd.seq hh he fin).imp fun x H1 ⟨m1, h1, dx, p1, k1, hh1, he1, r1, fin1⟩ => ?_
  by_cases ht : tyD T dx h1 = true
  · rw [if_pos ht] at fin1
    refine ⟨tyD_ok hh1 r1 ht, ?_⟩
    refine (Rd.seq hh1 he1 fin1).imp fun y H2 ⟨m2, h2, ds, p2, k2, hh2, he2, r2, fin2⟩ => ?_
    exact ⟨m2, h2, dx, ds, hh2, r1.mono p2 k2, r2, fin2.toP⟩
  · rw [if_neg ht] at fin1
    exact fin1.elim
end
def pAppend : PM := fun x xs h => match x, xs with
  | .ref n, [d] => match lstOf h n with
    | some ys => if ys.length < sizeLine then some (.non, h.set n (.lst (ys ++ [d]))) else none
    | none => none
  | _, _ => none
def pCount : PM := fun x xs h => match x, xs with
  | .str s, [.str [c]] => some (.int (s.count c : Nat), h)
  | _, _ => none
def pRfind : PM := fun x xs h => match x, xs with
  | .str s, [.str [c]] => some (.int (match lastAt c s with | some k => (k : Int) | none => -1), h)
  | _, _ => none
def pSIndex : PM := fun x xs h => match x, xs with
  | .str s, [.str [c]] => if c ∈ s then some (.int (s.idxOf c : Nat), h) else none
  | _, _ => none
/-- texts of a list -/
def strsOf : List D → Option (List (List Nat))
  | [] => some []
  | .str s :: r => (strsOf r).map fun t => s :: t
  | _ => none
def joinS (sep : List Nat) : List (List Nat) → List Nat
  | [] => []
  | [x] => x
  | x :: r => x ++ sep ++ joinS sep r
def pJoin : PM := fun x xs h => match x, xs with
  | .str s, [d] => (seqOf h d).bind fun ys => (strsOf ys).bind fun ts => if (ts.map List.length).sum + ts.length * s.length ≤ 16777216 then some (.str (joinS s ts), h) else none
  | _, _ => none
theorem strs_ok {K : PySem.W.Frag} {m : List Addr} {H : Hp} : ∀ {ds : List D} {vs : List V} {ts : List (List Nat)}, RepL K m H ds vs → strsOf ds = some ts → vs = (ts.map fun t => (⟨t.toArray⟩ : Str)).map V.str
  | [], vs, ts, r, e => by
    cases e
    exact r
  | .str s :: ds, vs, ts, r, e => by
    obtain ⟨v, ws, e1, q, t⟩ := r
    unfold strsOf at e
    cases hq : strsOf ds with
    | none => rw [hq] at e; cases e
    | some us =>
      rw [hq] at e
      cases e
      rw [e1, show v = .str _ from q, strs_ok t hq]
      rfl
  | .non :: _, _, _, _, e => by cases e
  | .bl _ :: _, _, _, _, e => by cases e
  | .int _ :: _, _, _, _, e => by cases e
  | .tup _ :: _, _, _, _, e => by cases e
  | .ref _ :: _, _, _, _, e => by cases e
  | .adr _ :: _, _, _, _, e => by cases e
  | .ty _ :: _, _, _, _, e => by cases e
theorem join_fold (s : List Nat) : ∀ (ts : List (List Nat)) (x : List Nat), (ts.map fun t => (⟨t.toArray⟩ : Str)).foldl (fun acc p => acc ++ (⟨s.toArray⟩ : Str).cps ++ p.cps) x.toArray = (joinS s (x :: ts)).toArray
  | [], x => rfl
  | y :: r, x => by
    rw [List.map_cons, List.foldl_cons]
    have e : x.toArray ++ (⟨s.toArray⟩ : Str).cps ++ (⟨y.toArray⟩ : Str).cps = (x ++ s ++ y).toArray := by simp
    rw [e, join_fold s r (x ++ s ++ y)]
    cases r with
    | nil => simp [joinS]
    | cons z r => simp [joinS]
theorem join_ok (s : List Nat) : ∀ ts : List (List Nat), Txt.join (⟨s.toArray⟩ : Str) (ts.map fun t => (⟨t.toArray⟩ : Str)) = ⟨(joinS s ts).toArray⟩
  | [] => rfl
  | x :: r => by
    have h := join_fold s r x
    show (⟨_⟩ : Str) = ⟨_⟩
    congr 1
theorem idx_before (c : Nat) : ∀ (s : List Nat) (j : Nat), j < s.idxOf c → s[j]? ≠ some c
  | [], j, h => by simp
  | x :: s, j, h => by
    rw [List.idxOf_cons] at h
    by_cases hx : x = c
    · subst hx
      simp at h
    · rw [show (x == c) = false by simpa using hx] at h
      simp only [cond_false] at h
      cases j with
      | zero => simpa using hx
      | succ j => simpa using idx_before c s j (by omega)
section
variable {X : Cx}
theorem m_append : MtR X "list.append" (RdM X.K pAppend) := by
  refine mtr_imp mt_append fun x xs H Q ⟨m, h, dx, ds, hh, rx, rs, f⟩ => ?_
  unfold pAppend at f
  split at f
  · rename_i n d
    obtain ⟨a, e1, e2⟩ := rx
    obtain ⟨v, e3, r3⟩ := rep1 rs
    cases q : lstOf h n with
    | none => rw [q] at f; exact f.elim
    | some ys =>
      rw [q] at f
      dsimp only at f
      split at f
      · rename_i hz
        obtain ⟨q0, vs, q1, t⟩ := lstOf_ok hh e1 q
        have k : Keeps H (upd H a (.lst (vs ++ [v]))) := .put q1 (fun _ z => by cases z) fun _ _ z => by cases z
        refine ⟨a, vs, v, e2, e3, q1, by rw [t.length]; exact hz, f m _ .non (List.prefix_refl _) k ?_ rfl⟩
        exact hh.put e1 q0 rfl k ⟨_, upd_same, (t.append (.one r3)).mono (List.prefix_refl _) k⟩
      · exact f.elim
  · exact f.elim
theorem m_count : MtR X "str.count" (RdM X.K pCount) := by
  refine mtr_imp mt_count fun x xs H Q ⟨m, h, dx, ds, hh, rx, rs, f⟩ => ?_
  unfold pCount at f
  split at f
  · rename_i s c
    obtain ⟨v, e3, r3⟩ := rep1 rs
    refine ⟨_, _, rx, by rw [e3, show v = .str _ from r3], ?_⟩
    rw [show (⟨[c].toArray⟩ : Str) = ⟨#[c]⟩ from rfl, count_one]
    exact f.same hh rfl
  · exact f.elim
theorem m_rfind : MtR X "str.rfind" (RdM X.K pRfind) := by
  refine mtr_imp mt_rfind fun x xs H Q ⟨m, h, dx, ds, hh, rx, rs, f⟩ => ?_
  unfold pRfind at f
  split at f
  · rename_i s c
    obtain ⟨v, e3, r3⟩ := rep1 rs
    refine ⟨_, _, rx, by rw [e3, show v = .str _ from r3], ?_⟩
    rw [show (⟨[c].toArray⟩ : Str) = ⟨#[c]⟩ from rfl, rfind_one]
    exact f.same hh rfl
  · exact f.elim
theorem m_sindex : MtR X "str.index" (RdM X.K pSIndex) := by
  refine mtr_imp mt_sindex fun x xs H Q ⟨m, h, dx, ds, hh, rx, rs, f⟩ => ?_
  unfold pSIndex at f
  split at f
  · rename_i s c
    split at f
    · rename_i hc
      obtain ⟨v, e3, r3⟩ := rep1 rs
      have hlt : s.idxOf c < s.length := List.idxOf_lt_length_of_mem hc
      obtain ⟨r, er⟩ := index_one s c (s.idxOf c) (by rw [List.getElem?_eq_getElem hlt]; simp) (idx_before c s)
      exact ⟨_, _, _, r, rx, by rw [e3, show v = .str _ from r3], er, f.same hh rfl⟩
    · exact f.elim
  · exact f.elim
theorem m_join : MtR X "str.join" (RdM X.K pJoin) := by
  refine mtr_imp mt_join fun x xs H Q ⟨m, h, dx, ds, hh, rx, rs, f⟩ => ?_
  unfold pJoin at f
  split at f
  · rename_i s d
    obtain ⟨v, e3, r3⟩ := rep1 rs
    cases q : seqOf h d with
    | none => rw [q] at f; exact f.elim
    | some ys =>
      rw [q] at f
      dsimp only [Option.bind] at f
      cases q2 : strsOf ys with
      | none => rw [q2] at f; exact f.elim
      | some ts =>
        rw [q2] at f
        dsimp only at f
        split at f
        · rename_i hz
          obtain ⟨a, vs, e4, q4, t⟩ := seqOf_ok hh r3 q
          have e5 := strs_ok t q2
          rw [e5] at q4
          refine ⟨_, a, _, rx, by rw [e3, e4], q4, ?_, ?_⟩
          · rw [List.map_map, List.length_map]
            have e6 : (Str.length ∘ fun t : List Nat => (⟨t.toArray⟩ : Str)) = List.length := by
              funext t
              simp [Str.length]
            rw [e6]
            simpa [Str.length] using hz
          · rw [join_ok]
            exact f.same hh rfl
        · exact f.elim
  · exact f.elim
end
end Py
set_option Elab.async false
set_option linter.all false
set_option maxRecDepth 100000
set_option maxHeartbeats 4000000
namespace Py
open PySem PySem.Spec PyProof.Rows L2

/-! ## statements -/
def sSeq (a b : SS) : SS := fun ρ h => match a ρ h with
  | .nx ρ' h' => b ρ' h'
  | o => o
def sNil : SS := fun ρ h => .nx ρ h
def sBrk : SS := fun ρ h => .bk ρ h
def sCnt : SS := fun ρ h => .ct ρ h
def bindS {α : Type} (r : R α) (ρ : Rho) (k : α → HH → O) : O := match r with
  | .ok a h => k a h
  | .ex c fs h => .ex c fs ρ h
  | .bad => .bad
def sExpr (f : ES) : SS := fun ρ h => bindS (f ρ h) ρ fun _ h1 => .nx ρ h1
def sRet (f : ES) : SS := fun ρ h => bindS (f ρ h) ρ fun d h1 => .rt d h1
def sRetN : SS := fun _ h => .rt .non h
def sIf (t : TS') (a b : SS) : SS := fun ρ h => bindS (t ρ h) ρ fun c h1 => if c = true then a ρ h1 else b ρ h1
section
variable {X : Cx} {W : WX} {pos : Pos} {st : Stmt} {rest : List Stmt} {a b : SS} {e : Expr} {f : ES}
theorem FinS.next {K : PySem.W.Frag} {mg : Str → Option Value} {m : List Addr} {H : Hp} {h : HH} {σ : L2.St} {ρ : Rho} {D : Ends} (hh : HeapR K m H h) (he : EnvR K m H σ ρ) (fin : FinS K mg m H (.nx ρ h) D W) : D.nx σ H :=
  fin m H σ (List.prefix_refl _) (.refl _) hh he
theorem c_snil : PSs X [] (RdS X W sNil) := pss_imp pss_nil fun D σ H ⟨m, ρ, h, hh, he, fin⟩ => FinS.next hh he fin
theorem c_pass : PS X (.Pass pos) (RdS X W sNil) := ps_imp ps_pass fun D σ H ⟨m, ρ, h, hh, he, fin⟩ => FinS.next hh he fin
theorem c_break : PS X (.Break pos) (RdS X W sBrk) := ps_imp ps_break fun D σ H ⟨m, ρ, h, hh, he, fin⟩ => fin m H σ (List.prefix_refl _) (.refl _) hh he
theorem c_cont : PS X (.Continue pos) (RdS X W sCnt) := ps_imp ps_continue fun D σ H ⟨m, ρ, h, hh, he, fin⟩ => fin m H σ (List.prefix_refl _) (.refl _) hh he
theorem c_doc {x : Str} {j : Nat} {pos' : Pos} : PS X (.Expr (.Constant (.str x) j pos) pos') (RdS X W sNil) := ps_imp ps_doc fun D σ H ⟨m, ρ, h, hh, he, fin⟩ => FinS.next hh he fin
theorem l_seq {mg : Str → Option Value} {K : PySem.W.Frag} {D : Ends} {σ : L2.St} {H : Hp} (q : RdSt K mg W (sSeq a b) D σ H) : RdSt K mg W a { D with nx := RdSt K mg W b D } σ H := by
  obtain ⟨m, ρ, h, hh, he, fin⟩ := q
  refine ⟨m, ρ, h, hh, he, ?_⟩
  unfold sSeq at fin
  cases e : a ρ h with
  | nx ρ' h' =>
    rw [e] at fin
    exact fun m' H' σ' p k r s => ⟨m', ρ', h', r, s, FinS.mono p k fin⟩
  | rt d h' => rw [e] at fin; exact fin
  | bk ρ' h' => rw [e] at fin; exact fin
  | ct ρ' h' => rw [e] at fin; exact fin
  | ex c fs ρ' h' => rw [e] at fin; exact fin
  | bad => rw [e] at fin; exact fin
theorem c_seq (h1 : PS X st (RdS X W a)) (h2 : PSs X rest (RdS X W b)) : PSs X (st :: rest) (RdS X W (sSeq a b)) := pss_imp (pss_cons h1 h2) fun D σ H q => l_seq q
theorem c_one (h1 : PS X st (RdS X W a)) : PSs X [st] (RdS X W a) := pss_one h1
theorem c_expr (he : PE X e (RdE X W f)) (hs : swapsWith e none pos.line X.env = pure false := by rfl) : PS X (.Expr e pos) (RdS X W (sExpr f)) := by
  refine ps_imp (ps_expr he hs) fun D σ H ⟨m, ρ, h, hh, henv, fin⟩ => ?_
  exact (Rd.seqS hh henv fin).imp fun x H1 ⟨m1, h1, dx, p1, k1, hh1, he1, r1, fin1⟩ => FinS.next hh1 he1 fin1
theorem c_ret (he : PE X e (RdE X W f)) : PS X (.Return (some e) pos) (RdS X W (sRet f)) := by
  refine ps_imp (ps_ret he) fun D σ H ⟨m, ρ, h, hh, henv, fin⟩ => ?_
  exact (Rd.seqS hh henv fin).imp fun x H1 ⟨m1, h1, dx, p1, k1, hh1, he1, r1, fin1⟩ => fin1 m1 H1 x (List.prefix_refl _) (.refl _) hh1 r1
theorem c_retn : PS X (.Return none pos) (RdS X W sRetN) := ps_imp ps_retN fun D σ H ⟨m, ρ, h, hh, he, fin⟩ => fin m H .non (List.prefix_refl _) (.refl _) hh rfl
theorem c_ifs {c : Expr} {s1 s2 : List Stmt} {t : TS'} (hc : PT X c (RdT X W t)) (ha : PSs X s1 (RdS X W a)) (hb : PSs X s2 (RdS X W b)) : PS X (.If c s1 s2 pos) (RdS X W (sIf t a b)) := by
  refine ps_imp (ps_if hc ha hb) fun D σ H ⟨m, ρ, h, hh, henv, fin⟩ => ?_
  refine (Rd.seqS hh henv fin).imp fun x H1 ⟨m1, h1, dx, p1, k1, hh1, he1, r1, fin1⟩ => ?_
  subst r1
  cases dx with
  | true => exact ⟨m1, ρ, h1, hh1, he1, fin1⟩
  | false => exact ⟨m1, ρ, h1, hh1, he1, fin1⟩
end

/-! ## targets -/
abbrev TgS := D → Rho → HH → Option Rho
def tgName (i : Nat) : TgS := fun d ρ _ => some (ρ.set i (some d))
def tgSeq : List TgS → List D → Rho → HH → Option Rho
  | [], [], ρ, _ => some ρ
  | g :: gs, d :: ds, ρ, h => (g d ρ h).bind fun ρ1 => tgSeq gs ds ρ1 h
  | _, _, _, _ => none
def tgTup (gs : List TgS) : TgS := fun d ρ h => (seqOf h d).bind fun ds => tgSeq gs ds ρ h
/-- slots outside sl stay -/
def Out (sl : List Nat) (σ σ' : L2.St) : Prop := σ'.length = σ.length ∧ ∀ i, i ∉ sl → σ'[i]? = σ[i]?
def RdG (K : PySem.W.Frag) (sl : List Nat) (g : TgS) : TG := fun v σ H Q => ∃ m ρ h d ρ', HeapR K m H h ∧ EnvR K m H σ ρ ∧ RepD K m H d v ∧ g d ρ h = some ρ' ∧ ∀ σ', EnvR K m H σ' ρ' → Out sl σ σ' → Q σ' H
def RdGs (K : PySem.W.Frag) (sl : List Nat) (gs : List TgS) : TGs := fun vs σ H Q => ∃ m ρ h ds ρ', HeapR K m H h ∧ EnvR K m H σ ρ ∧ RepL K m H ds vs ∧ tgSeq gs ds ρ h = some ρ' ∧ ∀ σ', EnvR K m H σ' ρ' → Out sl σ σ' → Q σ' H
theorem pg_imp {X : Cx} {e : Expr} {t t' : TG} (h : PG X e t) (i : ∀ v σ H Q, t' v σ H Q → t v σ H Q) : PG X e t' := ⟨fun pins s σ H v u Q I r q => h.run pins s σ H v u Q I r (i v σ H Q q)⟩
theorem pgs_imp {X : Cx} {e : List Expr} {t t' : TGs} (h : PGs X e t) (i : ∀ v σ H Q, t' v σ H Q → t v σ H Q) : PGs X e t' := ⟨fun pins s σ H v u Q I r q => h.run pins s σ H v u Q I r (i v σ H Q q)⟩
theorem pg_or {X : Cx} {e : Expr} {t t' : TG} (h : PG X e t) (h' : PG X e t') : PG X e (fun v σ H Q => t v σ H Q ∨ t' v σ H Q) := ⟨fun pins s σ H v u Q I r q => q.elim (fun q => h.run pins s σ H v u Q I r q) fun q => h'.run pins s σ H v u Q I r q⟩
section
variable {X : Cx} {W : WX} {pos : Pos}
theorem c_gname (i : Nat) {x : Str} (hN : X.N.Nodup) (hi : X.N[i]? = some x := by rfl) (hx : Loc X.env.scope x := by first | exact .inl rfl | exact .inr rfl) (hf : X.fn x = true ∨ X.env.scope.names.lookup x = some .local := by first | exact .inl rfl | exact .inr rfl) :
    PG X (.Name x pos) (RdG X.K [i] (tgName i)) := by
  refine pg_imp (pg_name hN hi hx hf) fun v σ H Q ⟨m, ρ, h, d, ρ', hh, he, r, e, q⟩ => ?_
  cases e
  refine q _ (he.set i r) ⟨by rw [List.length_set], fun j hj => ?_⟩
  rw [List.getElem?_set_ne]
  intro z
  exact hj (by rw [z]; exact List.mem_singleton_self _)
theorem c_gnil : PGs X [] (RdGs X.K [] []) := by
  refine pgs_imp pgs_nil fun vs σ H Q ⟨m, ρ, h, ds, ρ', hh, he, r, e, q⟩ => ?_
  cases ds with
  | nil =>
    cases e
    exact ⟨r, q _ he ⟨rfl, fun _ _ => rfl⟩⟩
  | cons d ds => cases e
theorem c_gcons {e : Expr} {es : List Expr} {g : TgS} {gs : List TgS} {sl sl' : List Nat} (h1 : PG X e (RdG X.K sl g)) (h2 : PGs X es (RdGs X.K sl' gs)) (hs : (assignEach (e :: es) X.env).map (·.2) = assign e X.env :: (assignEach es X.env).map (·.2) := by rfl) :
    PGs X (e :: es) (RdGs X.K (sl ++ sl') (g :: gs)) := by
  refine pgs_imp (pgs_cons h1 h2 hs) fun vs σ H Q ⟨m, ρ, h, ds, ρ', hh, he, r, e, q⟩ => ?_
  cases ds with
  | nil => cases e
  | cons d ds =>
    obtain ⟨v, ws, e1, r1, r2⟩ := r
    refine ⟨v, ws, e1, ?_⟩
    unfold tgSeq at e
    cases e2 : g d ρ h with
    | none => rw [e2] at e; cases e
    | some ρ1 =>
      rw [e2] at e
      refine ⟨m, ρ, h, d, ρ1, hh, he, r1, e2, fun σ1 he1 o1 => ⟨m, ρ1, h, ds, ρ', hh, he1, r2, e, fun σ2 he2 o2 => q σ2 he2 ⟨o2.1.trans o1.1, fun i hi => ?_⟩⟩⟩
      rw [List.mem_append, not_or] at hi
      exact (o2.2 i hi.2).trans (o1.2 i hi.1)
theorem tgSeq_len : ∀ {gs : List TgS} {ds : List D} {ρ ρ' : Rho} {h : HH}, tgSeq gs ds ρ h = some ρ' → ds.length = gs.length
  | [], [], _, _, _, _ => rfl
  | [], _ :: _, _, _, _, e => by cases e
  | _ :: _, [], _, _, _, e => by cases e
  | g :: gs, d :: ds, ρ, ρ', h, e => by
    unfold tgSeq at e
    cases e2 : g d ρ h with
    | none => rw [e2] at e; cases e
    | some ρ1 =>
      rw [e2] at e
      rw [List.length_cons, List.length_cons, tgSeq_len (ρ := ρ1) e]
theorem c_gtup {es : List Expr} {k : Nat} {gs : List TgS} {sl : List Nat} (hc : X.calm = true) (h : PGs X es (RdGs X.K sl gs))
    (hn : (assignEach es X.env).length = gs.length := by rfl) (hst : (assignEach es X.env).findIdx? (·.1) = none := by rfl) : PG X (.Tuple es k pos) (RdG X.K sl (tgTup gs)) := by
  refine pg_imp (pg_or (pg_tup hc h hn hst) (pg_lst hc h hn hst)) fun v σ H Q ⟨m, ρ, h, d, ρ', hh, he, r, e, q⟩ => ?_
  unfold tgTup at e
  cases e2 : seqOf h d with
  | none => rw [e2] at e; cases e
  | some ds =>
    rw [e2] at e
    obtain ⟨a, vs, e3, q3, t⟩ := seqOf_ok hh r e2
    have hl : vs.length = gs.length := by rw [t.length]; exact tgSeq_len e
    have rest : RdGs X.K sl gs vs σ H Q := ⟨m, ρ, h, ds, ρ', hh, he, t, e, q⟩
    rcases q3 with q3 | q3
    · exact .inr ⟨a, vs, e3, q3, hl, rest⟩
    · exact .inl ⟨a, vs, e3, q3, hl, rest⟩
def sAsg (f : ES) (g : TgS) : SS := fun ρ h => bindS (f ρ h) ρ fun d h1 => match g d ρ h1 with
  | some ρ' => .nx ρ' h1
  | none => .bad
theorem l_asg {f : ES} {g : TgS} {sl : List Nat} {D : Ends} {σ : L2.St} {H : Hp} (q : RdS X W (sAsg f g) D σ H) : tAsg (RdE X W f) (RdG X.K sl g) D σ H := by
  obtain ⟨m, ρ, h, hh, henv, fin⟩ := q
  refine (Rd.seqS hh henv fin).imp fun x H1 ⟨m1, h1, dx, p1, k1, hh1, he1, r1, fin1⟩ => ?_
  cases e : g dx ρ h1 with
  | none => rw [e] at fin1; exact fin1.elim
  | some ρ' =>
    rw [e] at fin1
    exact ⟨m1, ρ, h1, dx, ρ', hh1, he1, r1, e, fun σ' he' _ => FinS.next hh1 he' fin1⟩
theorem c_asg {tg e : Expr} {f : ES} {g : TgS} {sl : List Nat} (he : PE X e (RdE X W f)) (hg : PG X tg (RdG X.K sl g)) (hs : swapsWithSole [tg] e pos.line X.env = pure false := by rfl) (hw : swappedStores [tg] e X.env = pure none := by rfl)
    (h1 : (assignEach [tg] X.env).map (·.2) = [assign tg X.env] := by rfl) : PS X (.Assign [tg] e pos) (RdS X W (sAsg f g)) := ps_imp (ps_asg he hg hs hw h1) fun D σ H q => l_asg q
def sSet (i : Nat) (f : ES) : SS := fun ρ h => bindS (f ρ h) ρ fun d h1 => .nx (ρ.set i (some d)) h1
theorem l_set {i : Nat} {f : ES} {D : Ends} {σ : L2.St} {H : Hp} (q : RdS X W (sSet i f) D σ H) : tAsg (RdE X W f) (gName i) D σ H := by
  obtain ⟨m, ρ, h, hh, henv, fin⟩ := q
  exact (Rd.seqS hh henv fin).imp fun x H1 ⟨m1, h1, dx, p1, k1, hh1, he1, r1, fin1⟩ => FinS.next hh1 (he1.set i r1) fin1
theorem c_set (i : Nat) {x : Str} {e : Expr} {f : ES} {pos' : Pos} (hN : X.N.Nodup) (he : PE X e (RdE X W f)) (hi : X.N[i]? = some x := by rfl) (hx : Loc X.env.scope x := by first | exact .inl rfl | exact .inr rfl) (hs : swapsWith e (some (.Name x pos')) pos.line X.env = pure false := by rfl)
    (hf : X.fn x = true ∨ X.env.scope.names.lookup x = some .local := by first | exact .inl rfl | exact .inr rfl) : PS X (.Assign [.Name x pos'] e pos) (RdS X W (sSet i f)) := ps_imp (ps_set hN hi hx he hs hf) fun D σ H q => l_set q
/-- o[i] = e (a list) -/
def sSetIdx (fo fi fe : ES) : SS := fun ρ h => bindS (fe ρ h) ρ fun d h1 => bindS (fo ρ h1) ρ fun o h2 => bindS (fi ρ h2) ρ fun i h3 => match o, i with
  | .ref n, .int k => match lstOf h3 n with
    | some xs => match ixN xs.length k with
      | some j => .nx ρ (h3.set n (.lst (xs.set j d)))
      | none => .bad
    | none => .bad
  | _, _ => .bad
theorem c_setidx {o i e : Expr} {fo fi fe : ES} {pos2 : Pos} (ho : PE X o (RdE X W fo)) (hi : PE X i (RdE X W fi)) (he : PE X e (RdE X W fe))
    (ha : ∀ v, assign (.Subscript o i pos2) X.env v = (do
      let ov ← holding [v] (eval o X.env)
      let iv ← holding [v, ov] (eval i X.env)
      standAt pos2
      holding [v, ov, iv] (setItem ov iv v)
      release [v, ov, iv] []) := by intro _; rfl)
    (hs : swapsWithSole [.Subscript o i pos2] e pos.line X.env = pure false := by rfl) (hw : swappedStores [.Subscript o i pos2] e X.env = pure none := by rfl)
    (h1 : (assignEach [.Subscript o i pos2] X.env).map (·.2) = [assign (.Subscript o i pos2) X.env] := by rfl) : PS X (.Assign [.Subscript o i pos2] e pos) (RdS X W (sSetIdx fo fi fe)) := by
  refine ps_imp (ps_asg he (pg_sub ho hi set_list ha) hs hw h1) fun D σ H ⟨m, ρ, h, hh, henv, fin⟩ => ?_
  refine (Rd.seqS hh henv fin).imp fun v H1 ⟨m1, h1, dx, p1, k1, hh1, he1, r1, fin1⟩ => ?_
  refine (Rd.seqS hh1 he1 fin1).imp fun y H2 ⟨m2, h2, dy, p2, k2, hh2, he2, r2, fin2⟩ => ?_
  refine (Rd.seqS hh2 he2 fin2).imp fun z H3 ⟨m3, h3, dz, p3, k3, hh3, he3, r3, fin3⟩ => ?_
  have r2' := r2.mono p3 k3
  have r1' := (r1.mono p2 k2).mono p3 k3
  cases dy with
  | ref n =>
    cases dz with
    | int k =>
      dsimp only at fin3
      cases q : lstOf h3 n with
      | none => rw [q] at fin3; exact fin3.elim
      | some xs =>
        rw [q] at fin3
        dsimp only at fin3
        cases q2 : ixN xs.length k with
        | none => rw [q2] at fin3; exact fin3.elim
        | some j =>
          rw [q2] at fin3
          obtain ⟨a, e1, e2⟩ := r2'
          obtain ⟨q0, vs, q1, t⟩ := lstOf_ok hh3 e1 q
          have kk : Keeps H3 (upd H3 a (.lst (vs.set j v))) := .put q1 (fun _ z => by cases z) fun _ _ z => by cases z
          refine ⟨a, vs, k, j, e2, r3, q1, by rw [t.length]; exact q2, fin3 m3 _ σ (List.prefix_refl _) kk ?_ (he3.mono (List.prefix_refl _) kk)⟩
          exact hh3.put e1 q0 rfl kk ⟨_, upd_same, (t.set j r1').mono (List.prefix_refl _) kk⟩
    | _ => exact fin3.elim
  | _ => cases dz <;> exact fin3.elim
/-- x op= e -/
def sAug (i : Nat) (g : P2) (f : ES) : SS := fun ρ h => match ρ[i]? with
  | some (some x) => bindS (f ρ h) ρ fun y h1 => match g x y h1 with
    | some (z, h2) => .nx (ρ.set i (some z)) h2
    | none => .bad
  | _ => .bad
theorem c_aug (i : Nat) {x : Str} {e : Expr} {op : Operator} {f : ES} {g : P2} {pos' : Pos} (hN : X.N.Nodup) (he : PE X e (RdE X W f)) (ho : OpR X (inplaceOp op) (RdP X.K g)) (hi : X.N[i]? = some x := by rfl) (hx : Loc X.env.scope x := by first | exact .inl rfl | exact .inr rfl)
    (hf : X.fn x = true ∨ X.env.scope.names.lookup x = some .local := by first | exact .inl rfl | exact .inr rfl) : PS X (.AugAssign (.Name x pos') op e pos) (RdS X W (sAug i g f)) := by
  refine ps_imp (ps_aug hN hi hx he (ti := RdP X.K g) (fun pins s σ H x y v u Q I r1 r2 q => ho pins s σ H x y v u Q I r1 r2 q) hf) fun D σ H ⟨m, ρ, h, hh, henv, fin⟩ => ?_
  unfold sAug at fin
  cases e : ρ[i]? with
  | none => rw [e] at fin; exact fin.elim
  | some o =>
    cases o with
    | none => rw [e] at fin; exact fin.elim
    | some dx =>
      rw [e] at fin
      dsimp only at fin
      obtain ⟨v, e1, r0⟩ := henv.get i dx e
      refine ⟨v, e1, ?_⟩
      refine (Rd.seqS hh henv fin).imp fun y H1 ⟨m1, h1, dy, p1, k1, hh1, he1, r1, fin1⟩ => ?_
      refine ⟨m1, h1, dx, dy, hh1, r0.mono p1 k1, r1, ?_⟩
      cases q : g dx dy h1 with
      | none => rw [q] at fin1; exact fin1.elim
      | some p =>
        obtain ⟨z, h2⟩ := p
        rw [q] at fin1
        exact fun m' H' w p k r s => fin1 m' H' _ p k r ((he1.mono p k).set i s)
end

/-! ## while -/
def whileF (c : TS') (b : SS) : Nat → SS
  | 0, _, _ => .bad
  | n + 1, ρ, h => bindS (c ρ h) ρ fun t h1 => if t = true then (match b ρ h1 with
      | .nx ρ' h' => whileF c b n ρ' h'
      | .ct ρ' h' => whileF c b n ρ' h'
      | .bk ρ' h' => .nx ρ' h'
      | o => o) else .nx ρ h1
open Classical in
noncomputable def sWhile (c : TS') (b : SS) : SS := fun ρ h => if hx : ∃ n, whileF c b n ρ h ≠ .bad then whileF c b (Classical.choose hx) ρ h else .bad
theorem whileF_more (c : TS') (b : SS) : ∀ (n k : Nat) (ρ : Rho) (h : HH), whileF c b n ρ h ≠ .bad → whileF c b (n + k) ρ h = whileF c b n ρ h
  | 0, _, _, _, z => absurd rfl z
  | n + 1, k, ρ, h, z => by
    rw [show n + 1 + k = (n + k) + 1 by omega]
    unfold whileF at z ⊢
    cases e : c ρ h with
    | ok t h1 =>
      rw [e] at z
      dsimp only [bindS] at z ⊢
      cases t with
      | false => rfl
      | true =>
        rw [if_pos rfl] at z ⊢
        cases e2 : b ρ h1 with
        | nx ρ' h' => rw [e2] at z; exact whileF_more c b n k ρ' h' z
        | ct ρ' h' => rw [e2] at z; exact whileF_more c b n k ρ' h' z
        | bk ρ' h' => rfl
        | rt d h' => rfl
        | ex c fs ρ' h' => rfl
        | bad => rfl
    | ex c fs h1 => rfl
    | bad => rfl
theorem sWhile_of {c : TS'} {b : SS} {n : Nat} {ρ : Rho} {h : HH} (z : whileF c b n ρ h ≠ .bad) : sWhile c b ρ h = whileF c b n ρ h := by
  have hx : ∃ n, whileF c b n ρ h ≠ .bad := ⟨n, z⟩
  unfold sWhile
  rw [dif_pos hx]
  have z2 := Classical.choose_spec hx
  rcases Nat.le_total n (Classical.choose hx) with q | q
  · obtain ⟨k, e⟩ := Nat.exists_eq_add_of_le q
    rw [e]
    exact whileF_more c b n k ρ h z
  · obtain ⟨k, e⟩ := Nat.exists_eq_add_of_le q
    rw [e]
    exact (whileF_more c b _ k ρ h z2).symm
theorem sWhile_bad {c : TS'} {b : SS} {ρ : Rho} {h : HH} (z : ∀ n, whileF c b n ρ h = .bad) : sWhile c b ρ h = .bad := by
  unfold sWhile
  rw [dif_neg]
  rintro ⟨n, q⟩
  exact q (z n)
/-- one turn -/
theorem sWhile_eq (c : TS') (b : SS) (ρ : Rho) (h : HH) : sWhile c b ρ h = bindS (c ρ h) ρ fun t h1 => if t = true then (match b ρ h1 with
      | .nx ρ' h' => sWhile c b ρ' h'
      | .ct ρ' h' => sWhile c b ρ' h'
      | .bk ρ' h' => .nx ρ' h'
      | o => o) else .nx ρ h1 := by
  have one : ∀ n, whileF c b (n + 1) ρ h = bindS (c ρ h) ρ fun t h1 => if t = true then (match b ρ h1 with
      | .nx ρ' h' => whileF c b n ρ' h'
      | .ct ρ' h' => whileF c b n ρ' h'
      | .bk ρ' h' => .nx ρ' h'
      | o => o) else .nx ρ h1 := fun n => rfl
  have go : ∀ (ρ' : Rho) (h' : HH), (∀ n, whileF c b (n + 1) ρ h = whileF c b n ρ' h') → sWhile c b ρ h = sWhile c b ρ' h' := fun ρ' h' e => by
    by_cases hx : ∃ n, whileF c b n ρ' h' ≠ .bad
    · obtain ⟨n, z⟩ := hx
      rw [sWhile_of z, ← e n]
      exact sWhile_of (by rw [e n]; exact z)
    · have hb : ∀ n, whileF c b n ρ' h' = .bad := fun n => Classical.byContradiction fun q => hx ⟨n, q⟩
      rw [sWhile_bad hb]
      refine sWhile_bad fun n => ?_
      cases n with
      | zero => rfl
      | succ n => rw [e n, hb n]
  have fixed : ∀ o : O, (∀ n, whileF c b (n + 1) ρ h = o) → sWhile c b ρ h = o := fun o e => by
    by_cases ho : o = .bad
    · rw [ho]
      refine sWhile_bad fun n => ?_
      cases n with
      | zero => rfl
      | succ n => rw [e n, ho]
    · rw [← e 0]
      exact sWhile_of (by rw [e 0]; exact ho)
  cases e : c ρ h with
  | ex c' fs h1 =>
    refine fixed _ fun n => ?_
    rw [one n, e] <;> rfl
  | bad =>
    refine fixed _ fun n => ?_
    rw [one n, e] <;> rfl
  | ok t h1 =>
    dsimp only [bindS]
    cases t with
    | false =>
      refine fixed _ fun n => ?_
      rw [one n, e] <;> rfl
    | true =>
      rw [if_pos rfl]
      cases e2 : b ρ h1 with
      | nx ρ' h' =>
        refine go ρ' h' fun n => ?_
        rw [one n, e]
        dsimp only [bindS]
        rw [if_pos rfl, e2]
      | ct ρ' h' =>
        refine go ρ' h' fun n => ?_
        rw [one n, e]
        dsimp only [bindS]
        rw [if_pos rfl, e2]
      | bk ρ' h' =>
        refine fixed _ fun n => ?_
        rw [one n, e]
        dsimp only [bindS]
        rw [if_pos rfl, e2]
      | rt d h' =>
        refine fixed _ fun n => ?_
        rw [one n, e]
        dsimp only [bindS]
        rw [if_pos rfl, e2]
      | ex c' fs ρ' h' =>
        refine fixed _ fun n => ?_
        rw [one n, e]
        dsimp only [bindS]
        rw [if_pos rfl, e2]
      | bad =>
        refine fixed _ fun n => ?_
        rw [one n, e]
        dsimp only [bindS]
        rw [if_pos rfl, e2]
section
variable {X : Cx} {W : WX} {pos : Pos}
theorem c_while {c : Expr} {body : List Stmt} {t : TS'} {b : SS} (hp : PassesOwn (model X.prog X.w) X.A X.env X.xe) (hc : PT X c (RdT X W t)) (hb : PSs X body (RdS X W b)) : PS X (.While c body [] pos) (RdS X W (sWhile t b)) := by
  refine ps_imp (ps_while hp hc hb) fun D σ H ⟨m, ρ, h, hh, henv, fin⟩ => ?_
  have fuel : ∃ n, FinS X.K X.mg m H (whileF t b n ρ h) D W := by
    unfold sWhile at fin
    split at fin
    · exact ⟨_, fin⟩
    · exact fin.elim
  obtain ⟨n, fin⟩ := fuel
  refine ⟨fun n σ H => ∃ m ρ h, HeapR X.K m H h ∧ EnvR X.K m H σ ρ ∧ FinS X.K X.mg m H (whileF t b n ρ h) D W, ⟨n, m, ρ, h, hh, henv, fin⟩, ?_⟩
  rintro n σ H ⟨m, ρ, h, hh, henv, fin⟩
  cases n with
  | zero => exact fin.elim
  | succ n =>
    refine (Rd.seqS hh henv fin).imp fun x H1 ⟨m1, h1, dx, p1, k1, hh1, he1, r1, fin1⟩ => ?_
    subst r1
    cases dx with
    | false =>
      rw [if_neg Bool.false_ne_true] at fin1 ⊢
      exact FinS.next hh1 he1 fin1
    | true =>
      rw [if_pos rfl] at fin1 ⊢
      refine ⟨fun σ H => ∃ m ρ h, HeapR X.K m H h ∧ EnvR X.K m H σ ρ ∧ FinS X.K X.mg m H (whileF t b n ρ h) D W, fun σ' H' q => ⟨n, Nat.lt_succ_self n, q⟩, m1, ρ, h1, hh1, he1, ?_⟩
      cases e : b ρ h1 with
      | nx ρ' h' => rw [e] at fin1; exact fun m' H' σ' p k r s => ⟨m', ρ', h', r, s, FinS.mono p k fin1⟩
      | ct ρ' h' => rw [e] at fin1; exact fun m' H' σ' p k r s => ⟨m', ρ', h', r, s, FinS.mono p k fin1⟩
      | bk ρ' h' => rw [e] at fin1; exact fin1
      | rt d h' => rw [e] at fin1; exact fin1
      | ex c' fs ρ' h' => rw [e] at fin1; exact fin1
      | bad => rw [e] at fin1; exact fin1
end

/-! ## what is walked -/
structure Src where
  items : List D
  gd : HH → Prop
abbrev IS := Rho → HH → R Src
/-- the iterator J gives the items, while the guard holds -/
def IsIt (K : PySem.W.Frag) (m : List Addr) (H : Hp) (s : Src) (J : It) : Prop := ∀ m1 H1 h1, m <+: m1 → Keeps H H1 → HeapR K m1 H1 h1 → s.gd h1 →
  (∀ i, i < s.items.length → J.go i H1) ∧ J.stop s.items.length H1 ∧ ∀ i x H2, i < s.items.length → J.yld i H1 x H2 → Keeps H1 H2 ∧ HeapR K m1 H2 h1 ∧ ∃ d, s.items[i]? = some d ∧ RepD K m1 H2 d x
abbrev RdI (X : Cx) (W : WX) (f : IS) : TI := Rd X.K X.mg W (IsIt X.K) f
theorem pi_imp {X : Cx} {tg e : Expr} {t t' : TI} (h : PI X tg e t) (i : ∀ σ H R, t' σ H R → t σ H R) : PI X tg e t' := ⟨fun pins s σ H R I q => h.run pins s σ H R I (i σ H R q)⟩
theorem pi_or {X : Cx} {tg e : Expr} {t t' : TI} (h : PI X tg e t) (h' : PI X tg e t') : PI X tg e (fun σ H R => t σ H R ∨ t' σ H R) := ⟨fun pins s σ H R I q => q.elim (fun q => h.run pins s σ H R I q) fun q => h'.run pins s σ H R I q⟩
/-- over a tuple, a list, a text -/
def srcOf (h : HH) : D → Option Src
  | .tup xs => some ⟨xs, fun _ => True⟩
  | .str s => some ⟨s.map fun c => .str [c], fun _ => True⟩
  | .ref n => (itemsL h n).map fun xs => ⟨xs, fun h' => itemsL h' n = some xs⟩
  | _ => none
def iSeq (f : ES) : IS := fun ρ h => (f ρ h).bind fun d h1 => match srcOf h1 d with
  | some s => .ok s h1
  | none => .bad
def rgD (lo : Int) (n : Nat) : List D := (List.range n).map fun (i : Nat) => .int (lo + (i : Int))
noncomputable def pRange1 : List D → Option Src
  | [.int j] => if InR j then some ⟨rgD 0 j.toNat, fun _ => True⟩ else none
  | _ => none
noncomputable def pRange2 : List D → Option Src
  | [.int i, .int j] => if InR i ∧ InR j then some ⟨rgD i (j - i).toNat, fun _ => True⟩ else none
  | _ => none
def iSrc (g : List D → Option Src) (fa : AS) : IS := fun ρ h => (fa ρ h).bind fun xs h1 => match g xs with
  | some s => .ok s h1
  | none => .bad
noncomputable abbrev iRange1 : AS → IS := iSrc pRange1
noncomputable abbrev iRange2 : AS → IS := iSrc pRange2
theorem isIt_range {K : PySem.W.Frag} {m : List Addr} {H : Hp} (lo : Int) (n : Nat) : IsIt K m H ⟨rgD lo n, fun _ => True⟩ (Itr lo n) := by
  intro m1 H1 h1 _ _ hh _
  have hl : (rgD lo n).length = n := by simp [rgD]
  refine ⟨fun i hi => ?_, ?_, fun i x H2 hi y => ?_⟩
  · show i < n
    rw [← hl]
    exact hi
  · show n ≤ (rgD lo n).length
    rw [hl]
    exact Nat.le_refl _
  · obtain ⟨e1, e2⟩ := y
    subst e1 e2
    refine ⟨.refl _, hh, .int (lo + i), ?_, rfl⟩
    show (rgD lo n)[i]? = _
    have hi' : i < n := by rw [← hl]; exact hi
    simp [rgD, hi']
theorem isIt_tup {K : PySem.W.Frag} {m : List Addr} {H : Hp} {a : Addr} {vs : List V} {xs : List D} (q : SqT K H a vs) (t : RepL K m H xs vs) : IsIt K m H ⟨xs, fun _ => True⟩ (Itt K a) := by
  intro m1 H1 h1 p k hh _
  have q1 := k.sqT q
  have t1 := t.mono p k
  have w := walk_tup (K := K) (a := a) (xs := vs)
  refine ⟨fun i hi => w.goes i H1 (by rw [t.length]; exact hi) q1, ?_, fun i x H2 hi y => ?_⟩
  · show (Itt K a).stop xs.length H1
    rw [← t.length]
    exact w.stops H1 q1
  · obtain ⟨e1, e2⟩ := w.yields i H1 x H2 (by rw [t.length]; exact hi) q1 y
    subst e1
    exact ⟨.refl _, hh, t1.get' e2⟩
theorem isIt_lst {K : PySem.W.Frag} {m : List Addr} {H : Hp} {n : Nat} {a : Addr} {xs : List D} (e : m[n]? = some a) : IsIt K m H ⟨xs, fun h' => itemsL h' n = some xs⟩ (Itl K a) := by
  intro m1 H1 h1 p k hh g
  have e1 : m1[n]? = some a := by
    obtain ⟨t, rfl⟩ := p
    rw [List.getElem?_append_left (List.getElem?_eq_some_iff.mp e).1]
    exact e
  obtain ⟨vs, q1, t⟩ := itemsL_ok hh e1 g
  have w := walk_list (K := K) (a := a) (xs := vs)
  refine ⟨fun i hi => w.goes i H1 (by rw [t.length]; exact hi) q1, ?_, fun i x H2 hi y => ?_⟩
  · show (Itl K a).stop xs.length H1
    rw [← t.length]
    exact w.stops H1 q1
  · obtain ⟨e1, e2⟩ := w.yields i H1 x H2 (by rw [t.length]; exact hi) q1 y
    subst e1
    exact ⟨.refl _, hh, t.get' e2⟩
theorem isIt_str {K : PySem.W.Frag} {m : List Addr} {H : Hp} (s : List Nat) : IsIt K m H ⟨s.map fun c => .str [c], fun _ => True⟩ (Its ⟨s.toArray⟩) := by
  intro m1 H1 h1 p k hh _
  have w := walk_str (z := (⟨s.toArray⟩ : Str))
  have hl : (⟨s.toArray⟩ : Str).cps.size = (s.map fun c => D.str [c]).length := by simp
  refine ⟨fun i hi => w.goes i H1 (by rw [hl]; exact hi) trivial, ?_, fun i x H2 hi y => ?_⟩
  · show (Its ⟨s.toArray⟩).stop (s.map fun c => D.str [c]).length H1
    rw [← hl]
    exact w.stops H1 trivial
  · obtain ⟨e1, c, e2, e3⟩ := w.yields i H1 x H2 (by rw [hl]; exact hi) trivial y
    subst e1 e3
    refine ⟨.refl _, hh, .str [c], ?_, rfl⟩
    have e2' : s[i]? = some c := by simpa using e2
    simp [e2']
section
variable {X : Cx} {W : WX} {tg e : Expr} {f : ES} {fa : AS}
theorem c_iseq (he : PE X e (RdE X W f)) : PI X tg e (RdI X W (iSeq f)) := by
  refine pi_imp (pi_or (pi_list he) (pi_or (pi_tup he) (pi_str he))) fun σ H R ⟨m, ρ, h, hh, henv, fin⟩ => ?_
  cases e0 : f ρ h with
  | bad => exact absurd fin (by unfold iSeq; rw [e0]; exact fun z => z)
  | ex c fs h' =>
    refine .inl ⟨m, ρ, h, hh, henv, ?_⟩
    unfold iSeq at fin
    rw [e0] at fin ⊢
    exact fin
  | ok d h' =>
    have fin' := fin
    unfold iSeq at fin'
    rw [e0] at fin'
    dsimp only [Py.R.bind] at fin'
    cases e1 : srcOf h' d with
    | none => rw [e1] at fin'; exact fin'.elim
    | some sc =>
      rw [e1] at fin'
      cases d with
      | tup xs =>
        cases e1
        refine .inr (.inl ⟨m, ρ, h, hh, henv, ?_⟩)
        rw [e0]
        intro m1 H1 v p k hh1 r
        obtain ⟨a, vs, ev, q, t⟩ := r
        exact ⟨a, ev, ⟨vs, q⟩, fin' m1 H1 _ p k hh1 (isIt_tup q t)⟩
      | str z =>
        cases e1
        refine .inr (.inr ⟨m, ρ, h, hh, henv, ?_⟩)
        rw [e0]
        intro m1 H1 v p k hh1 r
        exact ⟨_, r, fin' m1 H1 _ p k hh1 (isIt_str z)⟩
      | ref n =>
        refine .inl ⟨m, ρ, h, hh, henv, ?_⟩
        rw [e0]
        intro m1 H1 v p k hh1 r
        obtain ⟨a, ea, ev⟩ := r
        dsimp only [srcOf] at e1
        cases e2 : itemsL h' n with
        | none => rw [e2] at e1; cases e1
        | some xs =>
          rw [e2] at e1
          cases e1
          obtain ⟨vs, q, t⟩ := itemsL_ok hh1 ea e2
          exact ⟨a, ev, ⟨vs, q⟩, fin' m1 H1 _ p k hh1 (isIt_lst ea)⟩
      | _ => cases e1
theorem c_range1 {a : Expr} {p pos : Pos} (hm : X.mg "range" = none) (ha : PA X [a] (RdA X W fa)) (hg : Gl X "range" := by rfl) (hs : starEach [a] X.env = [(false, eval a X.env)] := by rfl) : PI X tg (.Call (.Name "range" p) [a] [] pos) (RdI X W (iRange1 fa)) := by
  refine pi_imp (pi_range1 hg hm ha hs) fun σ H R ⟨m, ρ, h, hh, henv, fin⟩ => ?_
  refine (Rd.seq hh henv fin).imp fun vs H1 ⟨m1, h1, ds, p1, k1, hh1, he1, r1, fin1⟩ => ?_
  cases e : pRange1 ds with
  | none => rw [e] at fin1; exact fin1.elim
  | some sc =>
    rw [e] at fin1
    unfold pRange1 at e
    split at e
    · rename_i j
      split at e
      · rename_i hz
        cases e
        obtain ⟨v, e1, e2⟩ := rep1 r1
        exact ⟨j, by rw [e1, show v = .int j from e2], hz.1, hz.2, fin1 m1 H1 _ (List.prefix_refl _) (.refl _) hh1 (isIt_range 0 _)⟩
      · cases e
    · cases e
theorem c_range2 {a b : Expr} {p pos : Pos} (hm : X.mg "range" = none) (ha : PA X [a, b] (RdA X W fa)) (hg : Gl X "range" := by rfl) (hs : starEach [a, b] X.env = [(false, eval a X.env), (false, eval b X.env)] := by rfl) (hs2 : starEach [b] X.env = [(false, eval b X.env)] := by rfl) :
    PI X tg (.Call (.Name "range" p) [a, b] [] pos) (RdI X W (iRange2 fa)) := by
  refine pi_imp (pi_range2 hg hm ha hs hs2) fun σ H R ⟨m, ρ, h, hh, henv, fin⟩ => ?_
  refine (Rd.seq hh henv fin).imp fun vs H1 ⟨m1, h1, ds, p1, k1, hh1, he1, r1, fin1⟩ => ?_
  cases e : pRange2 ds with
  | none => rw [e] at fin1; exact fin1.elim
  | some sc =>
    rw [e] at fin1
    unfold pRange2 at e
    split at e
    · rename_i i j
      split at e
      · rename_i hz
        cases e
        obtain ⟨v, w, e1, e2, e3⟩ := rep2 r1
        exact ⟨i, j, by rw [e1, show v = .int i from e2, show w = .int j from e3], ⟨hz.1.1, hz.1.2, hz.2.1, hz.2.2⟩, fin1 m1 H1 _ (List.prefix_refl _) (.refl _) hh1 (isIt_range i _)⟩
      · cases e
    · cases e
end

/-! ## for -/
open Classical in
noncomputable def forL (gd : HH → Prop) (g : TgS) (b : SS) : List D → SS
  | [], ρ, h => if gd h then .nx ρ h else .bad
  | d :: ds, ρ, h => if gd h then (match g d ρ h with
    | none => .bad
    | some ρ1 => match b ρ1 h with
      | .nx ρ' h' => forL gd g b ds ρ' h'
      | .ct ρ' h' => forL gd g b ds ρ' h'
      | .bk ρ' h' => .nx ρ' h'
      | o => o) else .bad
noncomputable def sFor (f : IS) (g : TgS) (b : SS) : SS := fun ρ h => bindS (f ρ h) ρ fun s h1 => forL s.gd g b s.items ρ h1
section
variable {X : Cx} {W : WX} {pos : Pos}
theorem c_for {iter tg : Expr} {body : List Stmt} {f : IS} {g : TgS} {sl : List Nat} {b : SS} (hp : PassesOwn (model X.prog X.w) X.A X.env X.xe) (hc : X.calm = true) (hi : PI X tg iter (RdI X W f)) (hg : PG X tg (RdG X.K sl g)) (hb : PSs X body (RdS X W b))
    (hs : ∀ x, foldedSetIterable iter X.env x = pure x := by intro _; rfl) : PS X (.For tg iter body [] pos) (RdS X W (sFor f g b)) := by
  refine ps_imp (ps_for hp hc hi hg hb hs) fun D σ H ⟨m, ρ, h, hh, henv, fin⟩ => ?_
  refine (Rd.seqS hh henv fin).imp fun J H1 ⟨m1, h1, s, p1, k1, hh1, he1, it, fin1⟩ => ?_
  refine ⟨fun i n σ H => n = s.items.length - i ∧ i ≤ s.items.length ∧ ∃ m ρ h, m1 <+: m ∧ Keeps H1 H ∧ HeapR X.K m H h ∧ EnvR X.K m H σ ρ ∧ FinS X.K X.mg m H (forL s.gd g b (s.items.drop i) ρ h) D W,
    ⟨_, rfl, Nat.zero_le _, m1, ρ, h1, List.prefix_refl _, .refl _, hh1, he1, by rw [List.drop_zero]; exact fin1⟩, ?_⟩
  rintro i n σ H ⟨rfl, hi, m, ρ, h, p, k, hh, henv, fin⟩
  by_cases hlt : i < s.items.length
  · rw [List.drop_eq_getElem_cons hlt] at fin
    unfold forL at fin
    by_cases hgd : s.gd h
    · rw [if_pos hgd] at fin
      obtain ⟨go, _, yl⟩ := it m H h p k hh hgd
      refine .inr ⟨go i hlt, fun σ' H' => s.items.length - (i + 1) = s.items.length - (i + 1) ∧ i + 1 ≤ s.items.length ∧ ∃ m ρ h, m1 <+: m ∧ Keeps H1 H' ∧ HeapR X.K m H' h ∧ EnvR X.K m H' σ' ρ ∧ FinS X.K X.mg m H' (forL s.gd g b (s.items.drop (i + 1)) ρ h) D W,
        fun σ' H' q => ⟨s.items.length - (i + 1), by omega, q⟩, fun x H2 y => ?_⟩
      obtain ⟨k2, hh2, d, e2, r2⟩ := yl i x H2 hlt y
      rw [List.getElem?_eq_getElem hlt] at e2
      cases e2
      cases e : g s.items[i] ρ h with
      | none => rw [e] at fin; exact fin.elim
      | some ρ1 =>
        rw [e] at fin
        dsimp only at fin
        refine ⟨m, ρ, h, _, ρ1, hh2, henv.mono (List.prefix_refl _) k2, r2, e, fun σ1 he1 _ => ⟨m, ρ1, h, hh2, he1, ?_⟩⟩
        have fin' := FinS.mono (List.prefix_refl m) k2 fin
        cases e3 : b ρ1 h with
        | nx ρ' h' => rw [e3] at fin'; exact fun m' H' σ' p' k' r s' => ⟨rfl, hlt, m', ρ', h', p.trans p', (k.trans k2).trans k', r, s', FinS.mono p' k' fin'⟩
        | ct ρ' h' => rw [e3] at fin'; exact fun m' H' σ' p' k' r s' => ⟨rfl, hlt, m', ρ', h', p.trans p', (k.trans k2).trans k', r, s', FinS.mono p' k' fin'⟩
        | bk ρ' h' => rw [e3] at fin'; exact fin'
        | rt d h' => rw [e3] at fin'; exact fin'
        | ex c' fs ρ' h' => rw [e3] at fin'; exact fin'
        | bad => rw [e3] at fin'; exact fin'
    · rw [if_neg hgd] at fin
      exact fin.elim
  · have e : i = s.items.length := by omega
    subst e
    rw [List.drop_length] at fin
    unfold forL at fin
    by_cases hgd : s.gd h
    · rw [if_pos hgd] at fin
      obtain ⟨_, st, _⟩ := it m H h p k hh hgd
      exact .inl ⟨st, FinS.next hh henv fin⟩
    · rw [if_neg hgd] at fin
      exact fin.elim
end

/-! ## list comprehensions -/
def wipeR (ρ : Rho) : List Nat → Rho
  | [] => ρ
  | i :: r => (wipeR ρ r).set i none
theorem EnvR.wipeAll {K : PySem.W.Frag} {m : List Addr} {H : Hp} : ∀ (vs : List Nat) {σ : L2.St} {ρ : Rho}, EnvR K m H σ ρ → EnvR K m H (L2.wipe σ vs) (wipeR ρ vs)
  | [], _, _, e => e
  | i :: r, σ, ρ, e => (EnvR.wipeAll r e).wipe i
theorem wipe_in {i : Nat} : ∀ (vs : List Nat) (σ : L2.St), i ∈ vs → (L2.wipe σ vs)[i]? = if i < σ.length then some none else none
  | [], _, h => by cases h
  | j :: r, σ, h => by
    show ((L2.wipe σ r).set j none)[i]? = _
    rw [List.getElem?_set]
    by_cases hj : j = i
    · rw [if_pos hj, hj, L2.wipe_length]
    · rw [if_neg hj]
      exact wipe_in r σ ((List.mem_cons.mp h).resolve_left fun z => hj z.symm)
theorem wipe_outs {σ σ' : L2.St} {vs sl : List Nat} (o : Out sl σ σ') (h : ∀ i ∈ sl, i ∈ vs) : L2.wipe σ' vs = L2.wipe σ vs := by
  refine List.ext_getElem? fun i => ?_
  by_cases hi : i ∈ vs
  · rw [wipe_in vs σ' hi, wipe_in vs σ hi, o.1]
  · rw [L2.wipe_out hi, L2.wipe_out hi]
    exact o.2 i fun z => hi (h i z)
theorem wipe_twice (σ : L2.St) (vs : List Nat) : L2.wipe (L2.wipe σ vs) vs = L2.wipe σ vs := by
  refine List.ext_getElem? fun i => ?_
  by_cases hi : i ∈ vs
  · rw [wipe_in vs _ hi, wipe_in vs σ hi, L2.wipe_length]
  · rw [L2.wipe_out hi]
abbrev W0 : WX := fun _ _ _ _ => False
def tYes' : TS' := fun _ h => .ok true h
open Classical in
noncomputable def compL (gd : HH → Prop) (g : TgS) (t : TS') (e : ES) (ρ : Rho) (n : Nat) : List D → HH → Option HH
  | [], h => if gd h then some h else none
  | d :: ds, h => if gd h then (match g d ρ h with
    | none => none
    | some ρ1 => match t ρ1 h with
      | .ok true h1 => match e ρ1 h1 with
        | .ok y h2 => match lstOf h2 n with
          | some acc => if acc.length < sizeLine then compL gd g t e ρ n ds (h2.set n (.lst (acc ++ [y]))) else none
          | none => none
        | _ => none
      | .ok false h1 => compL gd g t e ρ n ds h1
      | _ => none) else none
noncomputable def eLc (f : IS) (g : TgS) (t : TS') (e : ES) (vs : List Nat) : ES := fun ρ h => (f ρ h).bind fun s h1 => match compL s.gd g t e (wipeR ρ vs) h1.length s.items (h1 ++ [.lst []]) with
  | some h2 => .ok (.ref h1.length) h2
  | none => .bad
def FinH (K : PySem.W.Frag) (m : List Addr) (H : Hp) (r : Option HH) (Q : Hp → Prop) : Prop := match r with
  | some h' => ∀ m' H', m <+: m' → Keeps H H' → HeapR K m' H' h' → Q H'
  | none => False
theorem FinH.mono {K : PySem.W.Frag} {m m1 : List Addr} {H H1 : Hp} {r : Option HH} {Q : Hp → Prop} (hm : m <+: m1) (k : Keeps H H1) (f : FinH K m H r Q) : FinH K m1 H1 r Q := by
  cases r with
  | none => exact f
  | some h' => exact fun m' H' p q => f m' H' (hm.trans p) (k.trans q)
theorem l_lc {K : PySem.W.Frag} {mg : Str → Option Value} {W : WX} {f : IS} {g : TgS} {sl vs : List Nat} {t : TS'} {e : ES} (hsl : ∀ i ∈ sl, i ∈ vs) {σ : L2.St} {H : Hp} {Q : VK} (q : Rd K mg W (RepD K) (eLc f g t e vs) σ H Q) :
    tLc (Rd K mg W (IsIt K) f) (RdG K sl g) (Rd K mg W0 (fun _ _ (a b : Bool) => a = b) t) (Rd K mg W0 (RepD K) e) vs σ H Q := by
  obtain ⟨m, ρ, h, hh, henv, fin⟩ := q
  refine (Rd.seq hh henv fin).imp fun J H1 ⟨m1, h1, s, p1, k1, hh1, he1, it, fin1⟩ D hD => ?_
  have kD : Keeps H1 (upd H1 D (.lst [])) := .new hD
  have hhD : HeapR K (m1 ++ [D]) (upd H1 D (.lst [])) (h1 ++ [.lst []]) := hh1.push hD ⟨[], upd_same, rfl⟩
  have pD : m1 <+: m1 ++ [D] := List.prefix_append _ _
  have eD : (m1 ++ [D])[h1.length]? = some D := by rw [← hh1.len]; simp
  have fin2 : FinH K (m1 ++ [D]) (upd H1 D (.lst [])) (compL s.gd g t e (wipeR ρ vs) h1.length s.items (h1 ++ [.lst []])) (Q (.ref D)) := by
    cases e0 : compL s.gd g t e (wipeR ρ vs) h1.length s.items (h1 ++ [.lst []]) with
    | none => rw [e0] at fin1; exact fin1
    | some h2 =>
      rw [e0] at fin1
      intro m' H' p k r
      refine fin1 m' H' _ (pD.trans p) (kD.trans k) r ⟨D, ?_, rfl⟩
      obtain ⟨u, rfl⟩ := p
      rw [List.getElem?_append_left (List.getElem?_eq_some_iff.mp eD).1]
      exact eD
  have env : ∀ {m2 : List Addr} {H2 : Hp}, m1 <+: m2 → Keeps H1 H2 → EnvR K m2 H2 (L2.wipe σ vs) (wipeR ρ vs) := fun p k => (he1.mono p k).wipeAll vs
  have atD : ∀ {m2 : List Addr}, (m1 ++ [D]) <+: m2 → m2[h1.length]? = some D := fun {m2} p => by
    obtain ⟨u, rfl⟩ := p
    rw [List.getElem?_append_left (List.getElem?_eq_some_iff.mp eD).1]
    exact eD
  refine ⟨fun i n H => n = s.items.length - i ∧ i ≤ s.items.length ∧ ∃ m h, (m1 ++ [D]) <+: m ∧ Keeps H1 H ∧ HeapR K m H h ∧ FinH K m H (compL s.gd g t e (wipeR ρ vs) h1.length (s.items.drop i) h) (Q (.ref D)),
    ⟨_, rfl, Nat.zero_le _, _, _, List.prefix_refl _, kD, hhD, by rw [List.drop_zero]; exact fin2⟩, ?_⟩
  rintro i n H ⟨rfl, hi, m, h, p, k, hh, fin⟩
  by_cases hlt : i < s.items.length
  · rw [List.drop_eq_getElem_cons hlt] at fin
    unfold compL at fin
    by_cases hgd : s.gd h
    · rw [if_pos hgd] at fin
      obtain ⟨go, _, yl⟩ := it m H h (pD.trans p) k hh hgd
      refine .inr ⟨go i hlt, fun H' => s.items.length - (i + 1) = s.items.length - (i + 1) ∧ i + 1 ≤ s.items.length ∧ ∃ m h, (m1 ++ [D]) <+: m ∧ Keeps H1 H' ∧ HeapR K m H' h ∧ FinH K m H' (compL s.gd g t e (wipeR ρ vs) h1.length (s.items.drop (i + 1)) h) (Q (.ref D)),
        fun H' q => ⟨_, by omega, q⟩, fun x H2 y => ?_⟩
      obtain ⟨k2, hh2, d, e2, r2⟩ := yl i x H2 hlt y
      rw [List.getElem?_eq_getElem hlt] at e2
      cases e2
      cases e0 : g s.items[i] (wipeR ρ vs) h with
      | none => rw [e0] at fin; exact fin.elim
      | some ρ1 =>
        rw [e0] at fin
        dsimp only at fin
        refine ⟨m, wipeR ρ vs, h, _, ρ1, hh2, env (pD.trans p) (k.trans k2), r2, e0, fun σ1 he1' o1 => ⟨?_, ?_⟩⟩
        · rw [wipe_outs o1 hsl, wipe_twice]
        · have fin' := FinH.mono (List.prefix_refl m) k2 fin
          refine ⟨m, ρ1, h, hh2, he1', ?_⟩
          cases e1 : t ρ1 h with
          | bad => rw [e1] at fin'; exact fin'.elim
          | ex c fs h' => rw [e1] at fin'; exact fin'.elim
          | ok tb h3 =>
            rw [e1] at fin'
            intro m3 H3 b p3 k3 hh3 eb
            subst eb
            cases tb with
            | false =>
              rw [if_neg Bool.false_ne_true]
              exact ⟨rfl, hlt, m3, h3, p.trans p3, (k.trans k2).trans k3, hh3, FinH.mono p3 k3 fin'⟩
            | true =>
              rw [if_pos rfl]
              refine ⟨m3, ρ1, h3, hh3, he1'.mono p3 k3, ?_⟩
              dsimp only at fin'
              cases e4 : e ρ1 h3 with
              | bad => rw [e4] at fin'; exact fin'.elim
              | ex c fs h' => rw [e4] at fin'; exact fin'.elim
              | ok yd h4 =>
                rw [e4] at fin'
                intro m4 H4 yv p4 k4 hh4 r4
                dsimp only at fin'
                cases e5 : lstOf h4 h1.length with
                | none => rw [e5] at fin'; exact fin'.elim
                | some acc =>
                  rw [e5] at fin'
                  dsimp only at fin'
                  split at fin'
                  · rename_i hz
                    have aD := atD (p.trans (p3.trans p4))
                    obtain ⟨q0, ws, q1, tt⟩ := lstOf_ok hh4 aD e5
                    have kk : Keeps H4 (upd H4 D (.lst (ws ++ [yv]))) := .put q1 (fun _ z => by cases z) fun _ _ z => by cases z
                    refine ⟨ws, q1, by rw [tt.length]; exact hz, rfl, hlt, m4, _, p.trans (p3.trans p4), (((k.trans k2).trans k3).trans k4).trans kk, hh4.put (c' := .lst (acc ++ [yd])) aD q0 rfl kk ⟨_, upd_same, (tt.append (.one r4)).mono (List.prefix_refl _) kk⟩, ?_⟩
                    exact FinH.mono (p3.trans p4) ((k3.trans k4).trans kk) fin'
                  · exact fin'.elim
    · rw [if_neg hgd] at fin
      exact fin.elim
  · have e' : i = s.items.length := by omega
    subst e'
    rw [List.drop_length] at fin
    unfold compL at fin
    by_cases hgd : s.gd h
    · rw [if_pos hgd] at fin
      obtain ⟨_, st, _⟩ := it m H h (pD.trans p) k hh hgd
      exact .inl ⟨st, fin m H (List.prefix_refl _) (.refl _) hh⟩
    · rw [if_neg hgd] at fin
      exact fin.elim
end Py
set_option Elab.async false
set_option linter.all false
set_option maxRecDepth 100000
set_option maxHeartbeats 4000000
namespace Py
open PySem PySem.Spec PyProof.Rows L2

/-! ## list comprehensions, in the text -/
section
variable {X : Cx} {W : WX} {pos spos : Pos}
theorem c_tsnil : PTs X [] (RdT X W tYes') := ⟨fun pins s σ H Q I ⟨m, ρ, h, hh, he, fin⟩ => pts_nil.run pins s σ H Q I (fin m H true (List.prefix_refl _) (.refl _) hh rfl)⟩
theorem c_tsone {c : Expr} {t : TS'} (h : PT X c (RdT X W t)) : PTs X [c] (RdT X W t) := pts_one h
theorem c_lc {elt tg iter : Expr} {ifs : List Expr} {scope : Scope} (own : List (Str × Nat)) {f : IS} {g : TgS} {sl vs : List Nat} {t : TS'} {e : ES} (hc : X.calm = true) (hN : X.N.Nodup) (hi : PI X tg iter (RdI X W f)) (ok : BlkOk X.N X.env.scope scope own)
    (hg : ∀ (s : Shared) (H : Hp) (C : Addr) (cl : List (Str × Addr)) (fp : List Addr), PG (X.blk s H scope (compEnvC scope cl C X.env) fp) tg (RdG X.K sl g)) (ht : ∀ (s : Shared) (H : Hp) (C : Addr) (cl : List (Str × Addr)) (fp : List Addr), PTs (X.blk s H scope (compEnvC scope cl C X.env) fp) ifs (RdT X W0 t))
    (he : ∀ (s : Shared) (H : Hp) (C : Addr) (cl : List (Str × Addr)) (fp : List Addr), PE (X.blk s H scope (compEnvC scope cl C X.env) fp) elt (RdE X W0 e)) (hvs : own.map (·.2) = vs := by rfl) (hsl : ∀ i ∈ sl, i ∈ vs := by decide) (hs : ∀ x, foldedSetIterable iter X.env x = pure x := by intro _; rfl) :
    PE X (.ListComp elt [⟨tg, iter, ifs, 0⟩] scope pos) (RdE X W (eLc f g t e vs)) := by
  subst hvs
  exact pe_imp (pe_lc hc hN hi ok hg ht he hs) fun σ H Q q => l_lc hsl q
theorem c_setlc (i : Nat) {y : Str} {py : Pos} {elt tg iter : Expr} {ifs : List Expr} {scope : Scope} (own : List (Str × Nat)) {f : IS} {g : TgS} {sl vs : List Nat} {t : TS'} {e : ES} (hc : X.calm = true) (hN : X.N.Nodup) (hi : PI X tg iter (RdI X W f)) (ok : BlkOk X.N X.env.scope scope own)
    (hg : ∀ (s : Shared) (H : Hp) (C : Addr) (cl : List (Str × Addr)) (fp : List Addr), PG (X.blk s H scope (compEnvC scope cl C X.env) fp) tg (RdG X.K sl g)) (ht : ∀ (s : Shared) (H : Hp) (C : Addr) (cl : List (Str × Addr)) (fp : List Addr), PTs (X.blk s H scope (compEnvC scope cl C X.env) fp) ifs (RdT X W0 t))
    (he : ∀ (s : Shared) (H : Hp) (C : Addr) (cl : List (Str × Addr)) (fp : List Addr), PE (X.blk s H scope (compEnvC scope cl C X.env) fp) elt (RdE X W0 e))
    (hsw : swapsWith (.ListComp elt [⟨tg, iter, ifs, 0⟩] scope pos) (some (.Name y py)) spos.line X.env = pure true) (hy : X.N[i]? = some y := by rfl) (hyl : X.env.scope.names.lookup y = some .local := by rfl)
    (hvs : own.map (·.2) = vs := by rfl) (hsl : ∀ i ∈ sl, i ∈ vs := by decide) (hs : ∀ x, foldedSetIterable iter X.env x = pure x := by intro _; rfl) :
    PS X (.Assign [.Name y py] (.ListComp elt [⟨tg, iter, ifs, 0⟩] scope pos) spos) (RdS X W (sSet i (eLc f g t e vs))) := by
  subst hvs
  refine ps_imp (ps_setLc hc hN hy hyl hsw hi ok hg ht he hs) fun D σ H q => ?_
  exact l_lc hsl (l_set q)
end

/-! ## defs -/
/-- a def as a function of its arguments and the heap; pad: the places of its other names -/
def mkFn (n : Nat) (pad : Rho) (body : SS) : List D → HH → R D := fun ds h => if ds.length = n then (match body (ds.map some ++ pad) h with
  | .nx _ h' => .ok .non h'
  | .rt d h' => .ok d h'
  | .ex c fs _ h' => .ex c fs h'
  | _ => .bad) else .bad
/-- the promise: what the function says -/
def spF (K : PySem.W.Frag) (mg : Str → Option Value) (n : Nat) (F : List D → HH → R D) : Sp := fun vs H Q E => vs.length = n ∧ ∃ m h ds, HeapR K m H h ∧ RepL K m H ds vs ∧ Fin K mg (RepD K) m H (F ds h) Q E
theorem start_env {K : PySem.W.Frag} {m : List Addr} {H : Hp} {N : List Str} {ds : List D} {vs : List V} {pad : Rho} (r : RepL K m H ds vs) (hpad : pad = List.replicate (N.length - ds.length) none) : EnvR K m H (L2.start N vs) (ds.map some ++ pad) := by
  subst hpad
  refine ⟨by unfold L2.start; simp [r.length], fun i d e => ?_⟩
  unfold L2.start
  by_cases hi : i < ds.length
  · rw [List.getElem?_append_left (by simpa using hi), List.getElem?_map] at e
    cases e0 : ds[i]? with
    | none => rw [e0] at e; cases e
    | some d' =>
      rw [e0] at e
      cases e
      obtain ⟨v, e1, e2⟩ := r.get e0
      refine ⟨v, ?_, e2⟩
      rw [List.getElem?_append_left (by simpa [r.length] using hi), List.getElem?_map, e1]
      rfl
  · rw [List.getElem?_append_right (by simpa using hi), List.getElem?_replicate] at e
    split at e <;> cases e
section
variable {P : Program} {w : World} {K : PySem.W.Frag} {mg : Str → Option Value} {base : Heap}
/-- the context of a def's body -/
abbrev CB (P : Program) (w : World) (K : PySem.W.Frag) (mg : Str → Option Value) (base : Heap) (N : List Str) (qual : Str) (st : Stmt) (f : Addr) (cdv : Value) (A : Around) (outer : List Env) (s : Shared) (H : Hp) (E : XK) : Cx := cxOf (L2.CX P w) P w K mg base N qual (defScope st) f cdv A outer s H E
abbrev WB (E : XK) : WX := fun cls d _ H' => E cls d H'
theorem ok_def {x qual : Str} {st : Stmt} {f : Addr} {fd : FuncData} {N ps : List Str} {k : Nat} {pad : Rho} {body : SS} (F : Fun K x qual st f fd) (S : FnScope N ps (defScope st)) (hpad : pad = List.replicate (N.length - ps.length) none)
    (hb : ∀ (cdv : Value) (A : Around) (outer : List Env) (s : Shared) (H : Hp) (E : XK), Room k (A.deeper (envOfC qual (defScope st) s.heap.objs.size f cdv)) → Takes (CB P w K mg base N qual st f cdv A outer s H E) (WB E) →
      PassesOwn (model P w) (CB P w K mg base N qual st f cdv A outer s H E).A (CB P w K mg base N qual st f cdv A outer s H E).env (CB P w K mg base N qual st f cdv A outer s H E).xe →
      PSs (CB P w K mg base N qual st f cdv A outer s H E) (defBody st) (RdS (CB P w K mg base N qual st f cdv A outer s H E) (WB E) body)) :
    FnOk P w K mg base (L2.CX P w) (k + 1) f fd ps (spF K mg ps.length (mkFn ps.length pad body)) := by
  refine F.okX S (fun vs H Q E h => h.1) (fun cdv A outer s H vs Q E hr h => ?_)
  refine ⟨_, hb cdv A outer s H E hr (takes_of rfl rfl rfl rfl) (passes_of rfl), ?_⟩
  obtain ⟨hl, m, h0, ds, hh, r, fin⟩ := h
  have hd : ds.length = ps.length := by rw [← r.length]; exact hl
  refine ⟨m, ds.map some ++ pad, h0, hh, start_env r (by rw [hd]; exact hpad), ?_⟩
  unfold mkFn at fin
  rw [if_pos hd] at fin
  cases e : body (ds.map some ++ pad) h0 with
  | nx ρ' h' => rw [e] at fin; exact fun m' H' σ' p k r s => fin m' H' .non p k r rfl
  | rt d h' => rw [e] at fin; exact fin
  | bk ρ' h' => rw [e] at fin; exact fin.elim
  | ct ρ' h' => rw [e] at fin; exact fin.elim
  | ex c fs ρ' h' => rw [e] at fin; exact fun m' H' σ' C dx vfs p k r s t u v => fin m' H' C dx vfs p k r t u v
  | bad => rw [e] at fin; exact fin.elim
/-- no meaning: nothing is promised -/
theorem ok_none {f : Addr} {fd : FuncData} {ps : List Str} {k : Nat} : FnOk P w K mg base (L2.CX P w) k f fd ps (spF K mg ps.length fun _ _ => .bad) :=
  ⟨fun vs H Q E h => h.1, fun A outer s H args us vs Q E hr e0 hb hv h => by
    obtain ⟨_, m, h0, ds, _, _, fin⟩ := h
    exact fin.elim⟩
end
/-- a call -/
def eCall (F : List D → HH → R D) (fa : AS) : ES := fun ρ h => (fa ρ h).bind F
section
variable {X : Cx} {W : WX} {pos p : Pos} {x : Str} {e : Expr} {es : List Expr} {fa : AS} {F : List D → HH → R D} {f : Addr} {fd : FuncData} {ps : List Str} {j k : Nat}
theorem c_call (G : FnOk X.prog X.w X.K X.mg X.base (L2.CX X.prog X.w) j f fd ps (spF X.K X.mg ps.length F)) (hr : Room k X.A) (tk : Takes X W) (hm : X.mg x = some (.ref f)) (hk : PySem.W.keepIn X.K (.ref f) = true) (hb : Binds X.K fd ps []) (hF : ∀ ds h, ds.length ≠ ps.length → F ds h = .bad)
    (ha : PA X (e :: es) (RdA X W fa)) (hj : j ≤ k := by decide) (hg : Gl X x := by rfl) (hdb : (x == ("__debug__" : Str)) = false := by decide) (he : starEach (e :: es) X.env = (false, eval e X.env) :: starEach es X.env := by rfl) (hpl : (backTo pos (starEach es X.env)).any (·.1) = false := by rfl) :
    PE X (.Call (.Name x p) (e :: es) [] pos) (RdE X W (eCall F fa)) := by
  refine pe_imp (pe_callS (E := WE W) (G.mono hj) hr hg hm hk hb (fun σ => passAt tk σ) ha hdb he hpl) fun σ H Q ⟨m, ρ, h, hh, henv, fin⟩ => ?_
  refine (Rd.seq hh henv fin).imp fun vs H1 ⟨m1, h1, ds, p1, k1, hh1, he1, r1, fin1⟩ => ?_
  refine ⟨?_, m1, h1, ds, hh1, r1, fin1⟩
  rw [r1.length]
  refine Classical.byContradiction fun hne => ?_
  rw [hF ds h1 hne] at fin1
  exact fin1
end
theorem mkFn_len {n : Nat} {pad : Rho} {body : SS} (ds : List D) (h : HH) (hne : ds.length ≠ n) : mkFn n pad body ds h = .bad := if_neg hne

/-! ## own exceptions -/
/-- what __init__ of such a class promises: its arguments become attributes -/
def spInit (K : PySem.W.Frag) (names : List Str) : Sp := fun vs H Q _ => ∃ (a C : Addr) (ws : List V), vs = .ref a :: ws ∧ ws.length = names.length ∧ H a = some (exo a C none) ∧ OexC K C ∧ (∀ n ∈ names, PySem.W.findIn K (.ref C) n = some none) ∧
  ∀ dx, H dx = none → dx ≠ a → Q .non (upd (upd H dx (exd dx (names.zip ws).reverse)) a (exo a C (some dx)))
section
variable {P : Program} {w : World} {K : PySem.W.Frag} {mg : Str → Option Value} {base : Heap}
theorem ok_init1 {qual : Str} {st : Stmt} {f : Addr} {fd : FuncData} {n : Str} (F : Fun K "__init__" qual st f fd) (S : FnScope ["self", n] ["self", n] (defScope st))
    (hb : ∀ (cdv : Value) (A : Around) (outer : List Env) (s : Shared) (H : Hp) (E : XK), PSs (CB P w K mg base ["self", n] qual st f cdv A outer s H E) (defBody st) (tOst K n (tVar 0) (tVar 1))) :
    FnOk P w K mg base (L2.CX P w) 1 f fd ["self", n] (spInit K [n]) := by
  refine F.okX S (fun vs H Q E h => ?_) (fun cdv A outer s H vs Q E hr h => ⟨_, hb cdv A outer s H E, ?_⟩)
  · obtain ⟨a, C, ws, e, hl, _⟩ := h
    rw [e, List.length_cons, hl]
    rfl
  · obtain ⟨a, C, ws, e, hl, ha, T, hn, q⟩ := h
    subst e
    match ws, hl with
    | [y], _ => exact ⟨y, rfl, .ref a, rfl, a, C, rfl, T, hn n List.mem_cons_self, .inl ⟨ha, fun dx h1 h2 => q dx h1 h2⟩⟩
theorem ok_init2 {qual : Str} {st : Stmt} {f : Addr} {fd : FuncData} {n n2 : Str} (F : Fun K "__init__" qual st f fd) (S : FnScope ["self", n, n2] ["self", n, n2] (defScope st))
    (hb : ∀ (cdv : Value) (A : Around) (outer : List Env) (s : Shared) (H : Hp) (E : XK), PSs (CB P w K mg base ["self", n, n2] qual st f cdv A outer s H E) (defBody st) (tSeq (tOst K n (tVar 0) (tVar 1)) (tOst K n2 (tVar 0) (tVar 2)))) :
    FnOk P w K mg base (L2.CX P w) 1 f fd ["self", n, n2] (spInit K [n, n2]) := by
  refine F.okX S (fun vs H Q E h => ?_) (fun cdv A outer s H vs Q E hr h => ⟨_, hb cdv A outer s H E, ?_⟩)
  · obtain ⟨a, C, ws, e, hl, _⟩ := h
    rw [e, List.length_cons, hl]
    rfl
  · obtain ⟨a, C, ws, e, hl, ha, T, hn, q⟩ := h
    subst e
    match ws, hl with
    | [y, z], _ =>
      refine ⟨y, rfl, .ref a, rfl, a, C, rfl, T, hn n List.mem_cons_self, .inl ⟨ha, fun dx h1 h2 => ?_⟩⟩
      refine ⟨z, rfl, .ref a, rfl, a, C, rfl, T, hn n2 (List.mem_cons_of_mem _ List.mem_cons_self), .inr ⟨dx, [(n, y)], upd_same, by rw [upd_ne h2, upd_same], by show 1 ≤ 900; decide, ?_⟩⟩
      have e : upd (upd (upd H dx (exd dx [(n, y)])) a (exo a C (some dx))) dx (exd dx ((n2, z) :: [(n, y)])) = upd (upd H dx (exd dx [(n2, z), (n, y)])) a (exo a C (some dx)) := by
        funext b
        by_cases hb : b = dx
        · subst hb
          rw [upd_same, upd_ne h2, upd_same]
        · rw [upd_ne hb]
          by_cases hba : b = a
          · subst hba
            rw [upd_same, upd_same]
          · rw [upd_ne hba, upd_ne hba, upd_ne hb, upd_ne hb]
      show Q .non _
      rw [e]
      exact q dx h1 h2
/-- an own exception class of the text -/
structure ExcC (P : Program) (w : World) (K : PySem.W.Frag) (mg : Str → Option Value) (base : Heap) (c : Str) (names : List Str) : Prop where
  ex : ∃ (C fI : Addr) (fd : FuncData), mg c = some (.ref C) ∧ OexC K C ∧ (∀ n ∈ names, PySem.W.findIn K (.ref C) n = some none) ∧ PySem.W.findIn K (.ref C) "__init__" = some (some (.ref fI)) ∧ PySem.W.typeIn K (.ref fI) = some (.type "function") ∧
    FnOk P w K mg base (L2.CX P w) 1 fI fd ("self" :: names) (spInit K names) ∧ Binds K fd ("self" :: names) []
end
def sRaise (c : Str) (names : List Str) (fa : AS) : SS := fun ρ h => bindS (fa ρ h) ρ fun xs h1 => if xs.length = names.length then .ex c (names.zip xs).reverse ρ h1 else .bad
theorem repF_append {K : PySem.W.Frag} {m : List Addr} {H : Hp} : ∀ {fs gs : List (Str × D)} {vs ws : List (Str × V)}, RepF K m H fs vs → RepF K m H gs ws → RepF K m H (fs ++ gs) (vs ++ ws)
  | [], gs, vs, ws, h, h' => by
    have e : vs = [] := h
    rw [e]
    exact h'
  | (f, d) :: r, gs, vs, ws, h, h' => by
    obtain ⟨v, us, e, q, t⟩ := h
    exact ⟨v, us ++ ws, by rw [e]; rfl, q, repF_append t h'⟩
theorem repF_zip {K : PySem.W.Frag} {m : List Addr} {H : Hp} : ∀ {names : List Str} {ds : List D} {vs : List V}, RepL K m H ds vs → RepF K m H (names.zip ds).reverse (names.zip vs).reverse
  | [], ds, vs, h => by simp [RepF]
  | n :: names, [], vs, h => by
    have e : vs = [] := h
    rw [e]
    simp [RepF]
  | n :: names, d :: ds, vs, h => by
    obtain ⟨v, ws, e, q, t⟩ := h
    subst e
    rw [List.zip_cons_cons, List.zip_cons_cons, List.reverse_cons, List.reverse_cons]
    exact repF_append (repF_zip t) ⟨v, [], rfl, q, rfl⟩
section
variable {X : Cx} {W : WX} {pos pos2 p : Pos} {x : Str} {e : Expr} {es : List Expr} {fa : AS} {names : List Str} {k : Nat}
theorem c_raise (T : ExcC X.prog X.w X.K X.mg X.base x names) (hc : X.calm = true) (hr : Room k X.A) (tk : Takes X W) (ha : PA X (e :: es) (RdA X W fa)) (hj : 2 ≤ k := by decide) (hnm : names.length ≤ 900 := by decide) (hg : Gl X x := by rfl) (hdb : (x == ("__debug__" : Str)) = false := by decide)
    (he : starEach (e :: es) X.env = (false, eval e X.env) :: starEach es X.env := by rfl) (hpl : (backTo pos (starEach es X.env)).any (·.1) = false := by rfl) :
    PS X (.Raise (some (.Call (.Name x p) (e :: es) [] pos)) none pos2) (RdS X W (sRaise x names fa)) := by
  obtain ⟨C, fI, fd, hm, oc, hno, iC, tI, F1, hb⟩ := T.ex
  refine ps_imp (ps_raise hc tk (pmk_oex oc iC tI F1 (hr.mono hj) hb .nil (passes_call tk fun _ _ _ _ z => z.elim) hg hm ha hdb he hpl)) fun D σ H ⟨m, ρ, h, hh, henv, fin⟩ => ?_
  refine (Rd.seqS hh henv fin).imp fun vs H1 ⟨m1, h1, ds, p1, k1, hh1, he1, r1, fin1⟩ => ?_
  by_cases hl : ds.length = names.length
  · rw [if_pos hl] at fin1
    refine ⟨by rw [r1.length]; omega, fun a hna => ?_⟩
    rw [List.append_nil]
    refine ⟨a, C, vs, rfl, by rw [r1.length]; exact hl, upd_same, oc, hno, fun dx h1' h2 => ?_⟩
    have hdx : H1 dx = none := by rw [upd_ne h2] at h1'; exact h1'
    refine ⟨rfl, dx, (names.zip vs).reverse, upd_same, by rw [upd_ne h2, upd_same], hdx, ?_⟩
    have e : upd (del (upd (upd (upd H1 a (exo a C none)) dx (exd dx (names.zip vs).reverse)) a (exo a C (some dx))) a) dx (.xd (names.zip vs).reverse) = upd H1 dx (.xd (names.zip vs).reverse) := by
      funext b
      by_cases hb : b = dx
      · subst hb
        rw [upd_same, upd_same]
      · rw [upd_ne hb, upd_ne hb]
        by_cases hba : b = a
        · subst hba
          rw [del_same, hna]
        · rw [del_ne hba, upd_ne hba, upd_ne hb, upd_ne hba]
    rw [e]
    have kk : Keeps H1 (upd H1 dx (.xd (names.zip vs).reverse)) := .new hdx
    exact fin1 m1 _ σ C dx _ (List.prefix_refl _) kk (hh1.tup hdx) (he1.mono (List.prefix_refl _) kk) hm upd_same ((repF_zip r1).mono (List.prefix_refl _) kk)
  · rw [if_neg hl] at fin1
    exact fin1.elim
end

/-! ## try .. except C as n: return .. -/
theorem EnvR.hide {K : PySem.W.Frag} {m : List Addr} {H : Hp} {σ : L2.St} {ρ : Rho} (e : EnvR K m H σ ρ) (i : Nat) (v : Option V) : EnvR K m H (σ.set i v) (ρ.set i none) := by
  refine ⟨by rw [List.length_set, List.length_set, e.len], fun j x h => ?_⟩
  rw [List.getElem?_set] at h ⊢
  by_cases hj : i = j
  · rw [if_pos hj] at h
    split at h <;> cases h
  · rw [if_neg hj] at h ⊢
    exact e.get j x h
/-- expressions over the caught exception's attributes -/
abbrev XS := List (Str × D) → Option D
abbrev XLS := List (Str × D) → Option (List D)
section
variable (K : PySem.W.Frag) (i : Nat) (a : Addr) (cls : Value) (d : Option Addr) (C : Addr)
structure XAt (m : List Addr) (H : Hp) (h : HH) (σ : L2.St) (fs : List (Str × D)) : Prop where
  hh : HeapR K m H h
  slot : σ[i]? = some (some (.ref a))
  hcls : cls = .ref C
  dict : ∃ dd vfs, d = some dd ∧ H dd = some (.xd vfs) ∧ RepF K m H fs vfs
def RdX {α β : Type} (Rp : List Addr → Hp → α → β → Prop) (xe : List (Str × D) → Option α) : L2.St → Hp → (β → Hp → Prop) → Prop := fun σ H Q => ∃ m h fs, XAt K i a cls d C m H h σ fs ∧ match xe fs with
  | some v => ∀ m' H' x, m <+: m' → Keeps H H' → HeapR K m' H' h → Same H H' → Rp m' H' v x → Q x H'
  | none => False
end
theorem XAt.later {K : PySem.W.Frag} {i : Nat} {a : Addr} {cls : Value} {d : Option Addr} {C : Addr} {m m' : List Addr} {H H' : Hp} {h : HH} {σ : L2.St} {fs : List (Str × D)} (x : XAt K i a cls d C m H h σ fs) (p : m <+: m') (k : Keeps H H') (s : Same H H') (hh : HeapR K m' H' h) : XAt K i a cls d C m' H' h σ fs := by
  obtain ⟨dd, vfs, e1, e2, e3⟩ := x.dict
  exact ⟨hh, x.slot, x.hcls, dd, vfs, e1, s _ _ e2, e3.mono p k⟩
section
variable {X : Cx} {pos : Pos} {i : Nat} {a C : Addr} {oe : Obj} {cls : Value} {d : Option Addr} {pn : List (Addr × Obj)} {n : Str}
abbrev RdXE (X : Cx) (i : Nat) (a : Addr) (cls : Value) (d : Option Addr) (C : Addr) (xe : XS) : TE := RdX X.K i a cls d C (RepD X.K) xe
abbrev RdXA (X : Cx) (i : Nat) (a : Addr) (cls : Value) (d : Option Addr) (C : Addr) (xe : XLS) : TA := RdX X.K i a cls d C (RepL X.K) xe
def xC (v : D) : XS := fun _ => some v
def xF (f : Str) : XS := fun fs => fs.lookup f
def xNil : XLS := fun _ => some []
def xCons (f : XS) (g : XLS) : XLS := fun fs => (f fs).bind fun v => (g fs).bind fun vs => some (v :: vs)
def xTup (g : XLS) : XS := fun fs => (g fs).bind fun vs => if vs.length ≤ sizeLine then some (.tup vs) else none
theorem x_here {K : PySem.W.Frag} {α β : Type} {Rp : List Addr → Hp → α → β → Prop} {xe : List (Str × D) → Option α} {v : α} {x : β} {σ : L2.St} {H : Hp} {Q : β → Hp → Prop} (q : RdX K i a cls d C Rp xe σ H Q) (hx : ∀ fs, xe fs = some v) (r : ∀ m, Rp m H v x) : Q x H := by
  obtain ⟨m, h, fs, A, fin⟩ := q
  rw [hx fs] at fin
  exact fin m H x (List.prefix_refl _) (.refl _) A.hh (Same.refl H) (r m)
theorem c_xnon {j : Nat} : PE (X.suite a ((a, oe) :: pn)) (.Constant .none j pos) (RdXE X i a cls d C (xC .non)) := pe_imp pe_non fun σ H Q q => x_here q (fun _ => rfl) fun _ => rfl
theorem c_xint {z : Int} {j : Nat} : PE (X.suite a ((a, oe) :: pn)) (.Constant (.int z) j pos) (RdXE X i a cls d C (xC (.int z))) := pe_imp pe_int fun σ H Q q => x_here q (fun _ => rfl) fun _ => rfl
theorem c_xbl {z : Bool} {j : Nat} : PE (X.suite a ((a, oe) :: pn)) (.Constant (.bool z) j pos) (RdXE X i a cls d C (xC (.bl z))) := pe_imp pe_bl fun σ H Q q => x_here q (fun _ => rfl) fun _ => rfl
theorem c_xstr (s : List Nat) {x : Str} {j : Nat} (hs : x = ⟨s.toArray⟩ := by decide +kernel) : PE (X.suite a ((a, oe) :: pn)) (.Constant (.str x) j pos) (RdXE X i a cls d C (xC (.str s))) := by
  subst hs
  exact pe_imp pe_str fun σ H Q q => x_here q (fun _ => rfl) fun _ => rfl
theorem c_xf {f : Str} {np : Pos} (T : XfC X.K C) (hno : PySem.W.findIn X.K (.ref C) f = some none) (hz : Zc cls d oe) (hf : ∃ vs, oe.data = .fields vs) (hN : X.N[i]? = some n := by rfl) (hv : Vis X.env.scope n := by first | exact Or.inl rfl | exact Or.inr (Or.inl rfl))
    (hd : (n == ("__debug__" : Str)) = false := by decide) (hcd : (n == ("__classdict__" : Str)) = false := by decide) (hb : attributeBase (.Name n np) f X.env (eval (.Name n np) X.env) = eval (.Name n np) X.env := by rfl) :
    PE (X.suite a ((a, oe) :: pn)) (.Attribute (.Name n np) f pos) (RdXE X i a cls d C (xF f)) := by
  refine pe_imp (pe_xf T hno hz hf (pe_var (X := X.suite a ((a, oe) :: pn)) (i := i) hN hv hd hcd) hb) fun σ H Q ⟨m, h, fs, A, fin⟩ => ?_
  cases e : xF f fs with
  | none => rw [e] at fin; exact fin.elim
  | some v =>
    rw [e] at fin
    obtain ⟨dd, vfs, e1, e2, e3⟩ := A.dict
    obtain ⟨x, e4, e5⟩ := e3.lookup f e
    exact ⟨_, A.slot, rfl, A.hcls, dd, vfs, x, e1, e2, e4, fin m H x (List.prefix_refl _) (.refl _) A.hh (Same.refl H) e5⟩
theorem c_xanil : PA (X.suite a ((a, oe) :: pn)) [] (RdXA X i a cls d C xNil) := pa_imp pa_nil fun σ H Q q => x_here q (fun _ => rfl) fun _ => rfl
theorem c_xacons {e : Expr} {es : List Expr} {f : XS} {g : XLS} (h1 : PE (X.suite a ((a, oe) :: pn)) e (RdXE X i a cls d C f)) (h2 : PA (X.suite a ((a, oe) :: pn)) es (RdXA X i a cls d C g)) (hs : starEach (e :: es) X.env = (false, eval e X.env) :: starEach es X.env := by rfl) :
    PA (X.suite a ((a, oe) :: pn)) (e :: es) (RdXA X i a cls d C (xCons f g)) := by
  refine pa_imp (pa_cons h1 h2 hs) fun σ H Q ⟨m, h, fs, A, fin⟩ => ?_
  unfold xCons at fin
  cases e1 : f fs with
  | none => rw [e1] at fin; exact fin.elim
  | some v =>
    cases e2 : g fs with
    | none => rw [e1, e2] at fin; exact fin.elim
    | some vs =>
      rw [e1, e2] at fin
      refine ⟨m, h, fs, A, ?_⟩
      rw [e1]
      intro m1 H1 x p1 k1 hh1 s1 r1
      refine ⟨m1, h, fs, A.later p1 k1 s1 hh1, ?_⟩
      rw [e2]
      intro m2 H2 y p2 k2 hh2 s2 r2
      exact fin m2 H2 _ (p1.trans p2) (k1.trans k2) hh2 (s1.trans s2) ⟨x, y, rfl, r1.mono p2 k2, r2⟩
theorem c_xtup {es : List Expr} {g : XLS} {k : Nat} (h : PA (X.suite a ((a, oe) :: pn)) es (RdXA X i a cls d C g)) : PE (X.suite a ((a, oe) :: pn)) (.Tuple es k pos) (RdXE X i a cls d C (xTup g)) := by
  refine pe_imp (pe_tup h) fun σ H Q ⟨m, h, fs, A, fin⟩ => ?_
  unfold xTup at fin
  cases e1 : g fs with
  | none => rw [e1] at fin; exact fin.elim
  | some vs =>
    rw [e1] at fin
    dsimp only [Option.bind] at fin
    refine ⟨m, h, fs, A, ?_⟩
    rw [e1]
    intro m1 H1 xs p1 k1 hh1 s1 r1
    by_cases hz : vs.length ≤ sizeLine
    · rw [if_pos hz] at fin
      refine ⟨by rw [r1.length]; exact hz, fun p hp => ?_⟩
      have kk : Keeps H1 (upd H1 p (.tup xs)) := .new hp
      exact fin m1 _ (.ref p) p1 (k1.trans kk) (hh1.tup hp) (s1.trans fun b o e => by rw [upd_ne (ne_of_none e hp)]; exact e) ⟨p, xs, rfl, SqT.of upd_same, r1.mono (List.prefix_refl _) kk⟩
    · rw [if_neg hz] at fin
      exact fin.elim
def sTryRet (i : Nat) (body : SS) (c0 : Str) (cs : List Str) (xe : XS) : SS := fun ρ h => match body ρ h with
  | .ex c fs ρ' h' => if c = c0 then (if i < ρ'.length then (match xe fs with
      | some v => .rt v h'
      | none => .bad) else .bad) else if c ∈ cs then .ex c fs ρ' h' else .bad
  | o => o
theorem c_tryret {W : WX} {x : Str} {cs : List Str} {body : List Stmt} {b : SS} {xe : XS} {e : Expr} {np pos' rp : Pos} (hs : X.stack = X.env :: X.outer) (hf : X.env.frame = some X.env.locals) (hN : X.N.Nodup) (tk : Takes X W) (hx : X.mg x = some (.ref C))
    (hcs : ∀ c ∈ x :: cs, ∀ C', X.mg c = some (.ref C') → PySem.W.exmOne X.K (.ref C') (.ref C) = some (decide (c = x)))
    (hb : ∀ (W' : WX) (pn : List (Addr × Obj)) (xe' : Value → Shared → Prop), Takes (X.tr pn xe') W' → PassesOwn (model X.prog X.w) X.A X.env xe' → PSs (X.tr pn xe') body (RdSt X.K X.mg W' b))
    (hsu : ∀ (a : Addr) (oe : Obj) (cls : Value) (d : Option Addr) (pn : List (Addr × Obj)), Zc cls d oe → (∃ vs, oe.data = .fields vs) → PE (X.suite a ((a, oe) :: pn)) e (RdXE X i a cls d C xe))
    (hi : X.N[i]? = some n := by rfl) (hln : X.env.kindOf n = some .local := by rfl) (hg : Gl X x := by rfl) (hdb : (x == ("__debug__" : Str)) = false := by decide) :
    PS X (.Try body [.ExceptHandler (some (.Name x np)) (some n) [.Return (some e) rp] pos'] [] [] pos) (RdS X W (sTryRet i b x cs xe)) := by
  refine ps_imp (ps_try_as (tb := fun W' => RdSt X.K X.mg W' b) (Wout := W) (ts := fun a cls d => tRet (RdXE X i a cls d C xe)) hs hf hN hi hln ⟨hg, hdb, .inl hx⟩ tk hb (fun a oe cls d pn hz hf' => pss_one (ps_ret (hsu a oe cls d pn hz hf')))) fun D σ H ⟨m, ρ, h, hh, henv, fin⟩ => ?_
  refine ⟨m, ρ, h, hh, henv, ?_⟩
  unfold sTryRet at fin
  cases e0 : b ρ h with
  | nx ρ' h' => rw [e0] at fin; exact fin
  | rt v h' => rw [e0] at fin; exact fin
  | bk ρ' h' => rw [e0] at fin; exact fin
  | ct ρ' h' => rw [e0] at fin; exact fin
  | bad => rw [e0] at fin; exact fin
  | ex c fs ρ' h' =>
    rw [e0] at fin
    dsimp only at fin
    intro m' H' σ' C' dx vfs p k r s hm hd hfs
    by_cases hc : c = x
    · rw [if_pos hc] at fin
      refine ⟨true, ?_, fun _ a ha => ?_, fun z => by cases z⟩
      · rw [hcs c (by rw [hc]; exact List.mem_cons_self) C' hm, decide_eq_true hc]
      · subst hc
        rw [hm] at hx
        cases hx
        by_cases hi2 : i < ρ'.length
        case neg =>
          rw [if_neg hi2] at fin
          exact fin.elim
        rw [if_pos hi2] at fin
        refine ⟨m', h', fs, ⟨r, ?_, rfl, dx, vfs, rfl, hd, hfs⟩, ?_⟩
        · rw [List.getElem?_set_self (by rw [s.len]; exact hi2)]
        · cases e1 : xe fs with
          | none => rw [e1] at fin; exact fin
          | some v =>
            rw [e1] at fin
            exact fun m2 H2 y p2 k2 r2 _ t2 => fin m2 H2 y (p.trans p2) (k.trans k2) r2 t2
    · rw [if_neg hc] at fin
      by_cases hm' : c ∈ cs
      · rw [if_pos hm'] at fin
        refine ⟨false, ?_, (fun z => by cases z), fun _ => fin m' H' σ' C' dx vfs p k r s hm hd hfs⟩
        rw [hcs c (List.mem_cons_of_mem _ hm') C' hm, decide_eq_false hc]
      · rw [if_neg hm'] at fin
        exact fin.elim
end
end Py
set_option Elab.async false
set_option linter.all false
set_option maxRecDepth 100000
set_option maxHeartbeats 4000000
/-! enumerate over a tuple -/
namespace PySem
open Sem (wp)
open AutoSeq1 (wpAny_loadPart')
theorem en_newT (l : Addr) (ob : Obj) (items : Array Value) :
    Meets (Builtin.«enumerate.__new__» ⟨[.type "enumerate", .ref l], []⟩) (fun _ R s => s.heap.get? l = some ob ∧ ob.cls = .type "tuple" ∧ s.heap.IsTuple l items ∧
      R (.ok (.ret (.ref (s.heap.push { cls := .type "tuple_iterator", data := .fields #[.ref l, .int 0 0] }).objs.size)))
        { s with heap := (s.heap.push { cls := .type "tuple_iterator", data := .fields #[.ref l, .int 0 0] }).push { cls := .type "enumerate", data := .fields #[.none, .bool false, .ref s.heap.objs.size, rawInt 0, .none, .none] } }) :=
  .of_wp fun prog w A R s h => by
    obtain ⟨hp, g, d, tk, os⟩ := s
    obtain ⟨c0, d0, dt0, sl0⟩ := ob
    obtain ⟨hob, hoc, hT, hfin⟩ := h
    simp only at hoc
    subst hoc
    have hsub := sub_enumerate
    wp_walk using wpAny_loadPart' hob
    refine wpAny_stack_any fun st => wpAny_pure ?_
    split
    · rename_i c _ _ _ _ _
      cases (c == Value.type "enumerate")
      · wp_walk using wpAny_loadPart' hob, wpAny_pyIter_tuple hT
        exact ⟨_, rfl, hfin⟩
      · wp_walk using wpAny_loadPart' hob, wpAny_pyIter_tuple hT
        exact ⟨_, rfl, hfin⟩
    · wp_walk using wpAny_loadPart' hob, wpAny_pyIter_tuple hT
      exact ⟨_, rfl, hfin⟩
section
variable {prog : Program} {w : World} {A : Around} {E : Value → Shared → Prop} {s : Shared}
theorem en_callT {l : Addr} {items : Array Value} {Q : Value → Shared → Prop} (hT : s.heap.IsTuple l items)
    (fin : ∀ h', IsEnum h' (s.heap.objs.size + 1) s.heap.objs.size 0 .none → h'.IsTupleIter s.heap.objs.size l 0 →
      (∀ b o, s.heap.get? b = some o → h'.get? b = some o) → Q (.ref (s.heap.objs.size + 1)) { s with heap := h' }) :
    wpAny (model prog w) A (call (.type "enumerate") [.ref l]) Q E s := by
  obtain ⟨ob, hob, hoc, n, hd⟩ := id hT
  refine callType_new F.called_enumerate (by decide) (F.typeCall_enumerate_1 _) (F.newCall_enumerate_1 _) (fun obj => F.args_object_init_2 obj _) F.entry_enumerate_new
    (en_newT l ob items) ⟨hob, hoc, hT, ?_⟩
  have hz : (s.heap.push { cls := .type "tuple_iterator", data := .fields #[.ref l, .int 0 0] }).objs.size = s.heap.objs.size + 1 := Heap.size_push ..
  show _ ∧ _
  rw [hz]
  have hen : IsEnum ((s.heap.push { cls := .type "tuple_iterator", data := .fields #[.ref l, .int 0 0] }).push
      { cls := .type "enumerate", data := .fields #[.none, .bool false, .ref s.heap.objs.size, rawInt 0, .none, .none] }) (s.heap.objs.size + 1) s.heap.objs.size 0 .none := by
    have z := Heap.get?_push_size (s.heap.push { cls := .type "tuple_iterator", data := .fields #[.ref l, .int 0 0] })
      (o := { cls := .type "enumerate", data := .fields #[.none, .bool false, .ref s.heap.objs.size, rawInt 0, .none, .none] }) rfl
    rw [hz] at z
    exact z
  exact ⟨⟨_, hen, rfl⟩, fin _ hen ⟨_, Heap.get?_push_of_some _ (Heap.get?_push_size _ rfl), rfl, rfl⟩ fun b o x => Heap.get?_push_of_some _ (Heap.get?_push_of_some _ x)⟩
end
end PySem
namespace Py
open PySem PySem.Spec PyProof.Rows L2
/-- the tuple at a, each item in a new pair with its place -/
def ItE (K : PySem.W.Frag) (a : Addr) : It :=
  ⟨fun i H => ∃ (xs : List V) (x : V), SqT K H a xs ∧ xs[i]? = some x, fun i H v H' => ∃ T x, v = .ref T ∧ H T = none ∧ H' = upd H T (.tup [.int (i : Nat), x]) ∧ ∀ xs, SqT K H a xs → xs[i]? = some x, fun i H => ∃ xs : List V, SqT K H a xs ∧ xs.length ≤ i⟩
theorem turn_enT {P : Program} {w : World} {K : PySem.W.Frag} {elts : List Expr} {kk : Nat} {tpos : Pos} (a e it : Addr) (ha : a ≠ e) (hai : a ≠ it) :
    Turn P w K (.Tuple elts kk tpos) (ItE K a) [e, it] e (fun i h => (∃ old, IsEnum h e it ((i : Nat) : Int) old) ∧ h.IsTupleIter it a i ∧ e ≠ it) where
  mem := by simp
  obj := fun i h st b hb => by
    obtain ⟨⟨old, he⟩, ⟨o, ho, hc, hd⟩, _⟩ := st
    rcases (show b = e ∨ b = it by simpa using hb) with z | z
    · rw [z]
      exact ⟨_, he, fun v q => nomatch q⟩
    · rw [z]
      exact ⟨o, ho, fun v q => by rw [hd] at q; cases q⟩
  keep := fun i h h' st k => let ⟨⟨old, he⟩, hi, hne⟩ := st; ⟨⟨old, k e (by simp) _ he⟩, hi.at fun o q => k it (by simp) o q, hne⟩
  item := by
    intro X hP hw hK hc i pins s σ H E I hf st hg
    subst hP hw hK
    obtain ⟨⟨old, he⟩, hit, hne⟩ := st
    obtain ⟨xs, x, hq, hx⟩ := hg
    obtain ⟨its, rv, p, hz⟩ := I.tuple hq
    obtain ⟨u, hu, ru⟩ := rv.get hx
    have hel : e < s.heap.objs.size := Heap.lt_size he
    have hil : it < s.heap.objs.size := by obtain ⟨_, q, _⟩ := hit; exact Heap.lt_size q
    have hlt : i < its.toArray.size := by
      obtain ⟨z, _⟩ := List.getElem?_eq_some_iff.mp hu
      simpa using z
    have D := Draws.tuple (prog := X.prog) (w := X.w) (A := X.A.in1) (I.ok.hd hc) it a hai its.toArray
    have hef : e ∉ [it, a] := by
      intro z
      rcases (show e = it ∨ e = a by simpa using z) with z | z
      · exact hne z
      · exact ha z.symm
    refine wpAny_pyNext_enum_itemD D he ⟨hit, p⟩ hlt hne hef fun x' h' tk hx' ho st' hT hsz hk => ?_
    have exu : x' = u := by
      have := hx'.symm.trans (show its.toArray[i]? = some u by simpa using hu)
      exact Option.some.inj this
    subst exu
    refine ⟨_, rfl, wpAny_letOwnedTupleGo_enum (s := { s with heap := h', toks := tk + 1 }) ho fun h'' he' sb => ?_⟩
    have hT2 : h''.get? s.heap.objs.size = some { cls := .type "tuple", data := .seq #[.int i tk, x'] } := (sb.2 _ (Nat.ne_of_gt hel)).trans hT
    have new : ObjOk X.prog X.w (upd H s.heap.objs.size (.tup [.int (i : Nat), x])) h'' s.heap.objs.size (.tup [.int (i : Nat), x]) :=
      ⟨by show 2 ≤ sizeLine; decide, [.int i tk, x'], .cons ⟨_, rfl⟩ (.cons ru .nil), ⟨_, hT2, rfl, _, rfl⟩⟩
    have I1 : Inv X pins σ (upd H s.heap.objs.size (.tup [.int (i : Nat), x])) { s with heap := h'', toks := tk + 1 } :=
      I.turnedNew (ch := [e, it]) (fun b ob hb q => (sb.2 b (fun z => hb (by simp [z]))).trans (hk b ob (fun z => hb (by simp [z])) (fun z => hb (by simp [z])) q)) hf (Nat.le_refl _) new
    refine ⟨.ref s.heap.objs.size, _, I1, rfl, ⟨_, x, rfl, I.hok.fresh (Nat.le_refl _), rfl, fun ys hy => by rw [I.tuple_inj hy hq]; exact hx⟩, ⟨⟨x', ?_⟩, st'.1.at fun o q => (sb.2 it (Ne.symm hne)).trans q, hne⟩, fun b hb => ?_⟩
    · rw [show ((i + 1 : Nat) : Int) = (i : Int) + 1 by omega]
      exact he'
    · have hb' : b < s.heap.objs.size := by
        rcases (show b = e ∨ b = it by simpa using hb) with z | z
        · rw [z]
          exact hel
        · rw [z]
          exact hil
      rw [upd_ne (Nat.ne_of_lt hb')]
      exact (hf b hb).1
  done := by
    intro X hP hw hK hc i pins s σ H E I hf st hg
    subst hP hw hK
    obtain ⟨⟨old, he⟩, hit, hne⟩ := st
    obtain ⟨xs, hq, hx⟩ := hg
    obtain ⟨its, rv, p, hz⟩ := I.tuple hq
    obtain ⟨f0, f1, f2, f3, f4, f5⟩ := hf it (by simp)
    have hl := rv.length
    have st2 : ∃ i', s.heap.IsTupleIter it a i' ∧ its.toArray.size ≤ i' := ⟨i, hit, by simp; omega⟩
    unfold pyNext
    have hT : s.TypeIs (.ref e) "enumerate" := ⟨_, he, rfl⟩
    refine wpAny_bind (wpAny_attempt (wpAny_callSpecial?_slot (name := Str.ofString "__next__") hT PySem.F.slot_enumerate_next
      (wpAny_call_entry PySem.F.slot_enumerate_next hT PySem.F.entry_enumerate_next ?_ (PySem.F.args_enumerate_next_1 _))))
    show wpAny _ _ (field (.ref e) 2 >>= _) _ _ _
    refine wpAny_bind (wpAny_field he rfl (x := .ref it) rfl ?_)
    refine wpAny_bind (wpAny_nextOf_tuple_end (I.ok.hd hc) hit p (by simp; omega) fun h' x he' hx' => ?_)
    obtain ⟨o, ho, hc'⟩ := hx'
    refine wpAny_bind (wpAny_isInstance (T := "StopIteration") (b := true) ⟨o, ho, hc'⟩ isSubtype_stop ?_)
    exact wpAny_pure ⟨rfl, I.turned (t' := s.toks) (fun b o hb q => he' b o hb q) f0 f1 f3 f4 f5⟩
  self := fun A i s Q E st h => let ⟨⟨_, he⟩, _⟩ := st; wpAny_pyIter_enum he h
def iEnT (K : PySem.W.Frag) (ta : TA) : TI := fun σ H R => ta σ H fun vs H1 => ∃ a xs, vs = [.ref a] ∧ SqT K H1 a xs ∧ R (ItE K a) H1
theorem pi_enT {X : Cx} {e : Expr} {ta : TA} {p pos tpos : Pos} {elts : List Expr} {kk : Nat} (hg : Gl X "enumerate") (hm : X.mg "enumerate" = none) (ha : PA X [e] ta) (hs : starEach [e] X.env = [(false, eval e X.env)] := by rfl) :
    PI X (.Tuple elts kk tpos) (.Call (.Name "enumerate" p) [e] [] pos) (iEnT X.K ta) := by
  refine ⟨fun pins s σ H R I h => ?_⟩
  refine Call_ (ld_blt I hg hm boot_enumerate (PyProof.Rows.callWith_type1 (thn (ha.run pos pins s σ H _ I h) fun us s1 ⟨vs, H1, I1, r1, q1⟩ => ?_) hs rfl))
  obtain ⟨a, xs, ex, hq, q⟩ := q1
  subst ex
  cases r1 with
  | cons r rr =>
    cases rr
    cases r
    obtain ⟨its, rv, p', hz⟩ := I1.tuple hq
    have hal : a < s1.heap.objs.size := p'.lt
    refine en_callT (show s1.heap.IsTuple a its.toArray from p') fun h' he hit hk => wpAny_pyIter_enum he ?_
    have I2 : Inv X pins σ H1 { s1 with heap := h' } := I1.kept (t' := s1.toks) hk
    refine ⟨s1.heap.objs.size + 1, [s1.heap.objs.size + 1, s1.heap.objs.size], _, _, H1, rfl, I2, turn_enT a (s1.heap.objs.size + 1) s1.heap.objs.size (Nat.ne_of_lt (Nat.lt_succ_of_lt hal)) (Nat.ne_of_lt hal), ⟨⟨.none, he⟩, hit, Nat.succ_ne_self _⟩, fun b hb => ?_, q⟩
    have hle : s1.heap.objs.size ≤ b := by
      rcases (show b = s1.heap.objs.size + 1 ∨ b = s1.heap.objs.size by simpa using hb) with z | z
      · rw [z]
        exact Nat.le_add_right _ _
      · rw [z]
        exact Nat.le_refl _
    exact I1.fpOk hle (I1.hok.fresh hle)
/-- pairs of places and items -/
def pairsD (xs : List D) : List D := (List.range xs.length).map fun (i : Nat) => .tup [.int (i : Int), xs.getD i .non]
def srcEn (h : HH) : List D → Option Src
  | [.tup xs] => some ⟨pairsD xs, fun _ => True⟩
  | [.ref n] => (itemsL h n).map fun xs => ⟨pairsD xs, fun h' => itemsL h' n = some xs⟩
  | _ => none
def iEnum' (fa : AS) : IS := fun ρ h => (fa ρ h).bind fun ds h1 => match srcEn h1 ds with
  | some s => .ok s h1
  | none => .bad
theorem pairsD_get {xs : List D} {i : Nat} {d : D} (e : xs[i]? = some d) : (pairsD xs)[i]? = some (.tup [.int (i : Int), d]) := by
  obtain ⟨hi, _⟩ := List.getElem?_eq_some_iff.mp e
  unfold pairsD
  rw [List.getElem?_map, List.getElem?_range hi]
  simp [List.getD_eq_getElem?_getD, e]
theorem isIt_enT {K : PySem.W.Frag} {m : List Addr} {H : Hp} {a : Addr} {vs : List V} {xs : List D} (q : SqT K H a vs) (t : RepL K m H xs vs) : IsIt K m H ⟨pairsD xs, fun _ => True⟩ (ItE K a) := by
  intro m1 H1 h1 p k hh _
  have q1 := k.sqT q
  have t1 := t.mono p k
  have hl : (pairsD xs).length = xs.length := by simp [pairsD]
  refine ⟨fun i hi => ?_, ⟨vs, q1, by show vs.length ≤ (pairsD xs).length; rw [hl, t.length]; exact Nat.le_refl _⟩, fun i x H2 hi y => ?_⟩
  · have hi' : i < xs.length := by rw [← hl]; exact hi
    obtain ⟨v, e1, _⟩ := t.get (List.getElem?_eq_getElem hi')
    exact ⟨vs, v, q1, e1⟩
  · have hi' : i < xs.length := by rw [← hl]; exact hi
    obtain ⟨T, v, e1, e2, e3, e4⟩ := y
    subst e1 e3
    have kk : Keeps H1 (upd H1 T (.tup [.int (i : Nat), v])) := .new e2
    obtain ⟨d, e5, r5⟩ := t1.get' (e4 vs q1)
    refine ⟨kk, hh.tup e2, _, pairsD_get e5, T, _, rfl, SqT.of upd_same, RepL.two rfl (r5.mono (List.prefix_refl _) kk)⟩
theorem isIt_enL {K : PySem.W.Frag} {m : List Addr} {H : Hp} {n : Nat} {a : Addr} {xs : List D} (e : m[n]? = some a) : IsIt K m H ⟨pairsD xs, fun h' => itemsL h' n = some xs⟩ (Ite K a) := by
  intro m1 H1 h1 p k hh g
  have e1 : m1[n]? = some a := by
    obtain ⟨t, rfl⟩ := p
    rw [List.getElem?_append_left (List.getElem?_eq_some_iff.mp e).1]
    exact e
  obtain ⟨vs, q1, t⟩ := itemsL_ok hh e1 g
  have hl : (pairsD xs).length = xs.length := by simp [pairsD]
  refine ⟨fun i hi => ?_, ⟨vs, q1, by show vs.length ≤ (pairsD xs).length; rw [hl, t.length]; exact Nat.le_refl _⟩, fun i x H2 hi y => ?_⟩
  · have hi' : i < xs.length := by rw [← hl]; exact hi
    obtain ⟨v, e1, _⟩ := t.get (List.getElem?_eq_getElem hi')
    exact ⟨vs, v, q1, e1⟩
  · obtain ⟨T, v, e1, e2, e3, e4⟩ := y
    subst e1 e3
    have kk : Keeps H1 (upd H1 T (.tup [.int (i : Nat), v])) := .new e2
    obtain ⟨d, e5, r5⟩ := t.get' (e4 vs q1)
    refine ⟨kk, hh.tup e2, _, pairsD_get e5, T, _, rfl, SqT.of upd_same, RepL.two rfl (r5.mono (List.prefix_refl _) kk)⟩
theorem c_enum {X : Cx} {W : WX} {fa : AS} {e : Expr} {p pos tpos : Pos} {elts : List Expr} {kk : Nat} (hm : X.mg "enumerate" = none) (ha : PA X [e] (RdA X W fa)) (hg : Gl X "enumerate" := by rfl) (hs : starEach [e] X.env = [(false, eval e X.env)] := by rfl) :
    PI X (.Tuple elts kk tpos) (.Call (.Name "enumerate" p) [e] [] pos) (RdI X W (iEnum' fa)) := by
  refine pi_imp (pi_or (pi_enum hg hm ha hs) (pi_enT hg hm ha hs)) fun σ H R ⟨m, ρ, h, hh, henv, fin⟩ => ?_
  cases e0 : fa ρ h with
  | bad => exact absurd fin (by unfold iEnum'; rw [e0]; exact fun z => z)
  | ex c fs h' =>
    refine .inl ⟨m, ρ, h, hh, henv, ?_⟩
    unfold iEnum' at fin
    rw [e0] at fin ⊢
    exact fin
  | ok ds h' =>
    have fin' := fin
    unfold iEnum' at fin'
    rw [e0] at fin'
    dsimp only [Py.R.bind] at fin'
    cases e1 : srcEn h' ds with
    | none => rw [e1] at fin'; exact fin'.elim
    | some sc =>
      rw [e1] at fin'
      unfold srcEn at e1
      split at e1
      · rename_i xs
        cases e1
        refine .inr ⟨m, ρ, h, hh, henv, ?_⟩
        rw [e0]
        intro m1 H1 v p k hh1 r
        obtain ⟨x, ex, a, vs, ev, q, t⟩ := rep1 r
        exact ⟨a, vs, by rw [ex, ev], q, fin' m1 H1 _ p k hh1 (isIt_enT q t)⟩
      · rename_i n
        refine .inl ⟨m, ρ, h, hh, henv, ?_⟩
        rw [e0]
        intro m1 H1 v p k hh1 r
        obtain ⟨x, ex, a, ea, ev⟩ := rep1 r
        cases e2 : itemsL h' n with
        | none => rw [e2] at e1; cases e1
        | some xs =>
          rw [e2] at e1
          cases e1
          obtain ⟨vs, q, t⟩ := itemsL_ok hh1 ea e2
          exact ⟨a, vs, by rw [ex, ev], q, fin' m1 H1 _ p k hh1 (isIt_enL ea)⟩
      · cases e1
end Py
set_option Elab.async false
set_option linter.all false
set_option maxRecDepth 100000
set_option maxHeartbeats 4000000
namespace Py
open PySem PySem.Spec PyProof.Rows L2

theorem bt_len : bootBuiltins "len" = some (.builtin "len") := by decide +kernel
theorem bt_abs : bootBuiltins "abs" = some (.builtin "abs") := by decide +kernel
theorem bt_max : bootBuiltins "max" = some (.builtin "max") := by decide +kernel
theorem bt_min : bootBuiltins "min" = some (.builtin "min") := by decide +kernel
theorem bt_sum : bootBuiltins "sum" = some (.builtin "sum") := by decide +kernel
theorem bt_sorted : bootBuiltins "sorted" = some (.builtin "sorted") := by decide +kernel
theorem bt_isinstance : bootBuiltins "isinstance" = some (.builtin "isinstance") := by decide +kernel
theorem bt_int : bootBuiltins "int" = some (.type "int") := by decide +kernel
theorem bt_bool : bootBuiltins "bool" = some (.type "bool") := by decide +kernel
theorem bt_str : bootBuiltins "str" = some (.type "str") := by decide +kernel
theorem bt_tuple : bootBuiltins "tuple" = some (.type "tuple") := by decide +kernel
theorem bt_list : bootBuiltins "list" = some (.type "list") := by decide +kernel
theorem bt_set : bootBuiltins "set" = some (.type "set") := by decide +kernel

/-- the text's def x stands in the module -/
structure HasFn (K : PySem.W.Frag) (mg : Str → Option Value) (x : Str) (st : Stmt) (ps : List Str) : Prop where
  ex : ∃ (f : Addr) (fd : FuncData), Fun K x x st f fd ∧ mg x = some (.ref f) ∧ Binds K fd ps []
/-- the def x means F -/
structure OkFn (P : Program) (w : World) (K : PySem.W.Frag) (mg : Str → Option Value) (base : Heap) (L : Nat) (x : Str) (ps : List Str) (F : List D → HH → R D) : Prop where
  ex : ∃ (f : Addr) (fd : FuncData), mg x = some (.ref f) ∧ PySem.W.keepIn K (.ref f) = true ∧ Binds K fd ps [] ∧ FnOk P w K mg base (L2.CX P w) L f fd ps (spF K mg ps.length F) ∧ ∃ oc od sl, K.lookup f = some ⟨oc, od, .func fd, sl⟩
  len : ∀ ds h, ds.length ≠ ps.length → F ds h = .bad
section
variable {P : Program} {w : World} {K : PySem.W.Frag} {mg : Str → Option Value} {base : Heap}
theorem ok_fn {x : Str} {st : Stmt} {N ps : List Str} {k : Nat} {pad : Rho} {body : SS} (T : HasFn K mg x st ps) (S : FnScope N ps (defScope st)) (hpad : pad = List.replicate (N.length - ps.length) none)
    (hb : ∀ (f : Addr) (cdv : Value) (A : Around) (outer : List Env) (s : Shared) (H : Hp) (E : XK), Room k (A.deeper (envOfC x (defScope st) s.heap.objs.size f cdv)) → Takes (CB P w K mg base N x st f cdv A outer s H E) (WB E) →
      PassesOwn (model P w) (CB P w K mg base N x st f cdv A outer s H E).A (CB P w K mg base N x st f cdv A outer s H E).env (CB P w K mg base N x st f cdv A outer s H E).xe →
      PSs (CB P w K mg base N x st f cdv A outer s H E) (defBody st) (RdS (CB P w K mg base N x st f cdv A outer s H E) (WB E) body)) :
    OkFn P w K mg base (k + 1) x ps (mkFn ps.length pad body) := by
  obtain ⟨f, fd, F, hm, hB⟩ := T.ex
  have F' := F
  obtain ⟨oc, od, kV, doc, pm, an, cdv, ct, osl, e, lk, _⟩ := F'.ex
  exact ⟨⟨f, fd, hm, F.kp, hB, ok_def F S hpad (hb f), oc, od, osl, lk⟩, fun ds h hne => mkFn_len ds h hne⟩
theorem ok_fn0 {x : Str} {st : Stmt} {ps : List Str} {k : Nat} (T : HasFn K mg x st ps) : OkFn P w K mg base k x ps (fun _ _ => .bad) := by
  obtain ⟨f, fd, F, hm, hB⟩ := T.ex
  have F' := F
  obtain ⟨oc, od, kV, doc, pm, an, cdv, ct, osl, e, lk, _⟩ := F'.ex
  exact ⟨⟨f, fd, hm, F.kp, hB, ok_none, oc, od, osl, lk⟩, fun _ _ _ => rfl⟩
theorem OkFn.mono {L L' : Nat} {x : Str} {ps : List Str} {F : List D → HH → R D} (G : OkFn P w K mg base L x ps F) (h : L ≤ L') : OkFn P w K mg base L' x ps F := by
  obtain ⟨⟨f, fd, h1, h2, h3, h4, h6⟩, h5⟩ := G
  exact ⟨⟨f, fd, h1, h2, h3, h4.mono h, h6⟩, h5⟩
end
section
variable {X : Cx} {W : WX} {pos p : Pos} {x : Str} {e : Expr} {es : List Expr} {fa : AS} {F : List D → HH → R D} {ps : List Str} {j k : Nat}
theorem c_fn (G : OkFn X.prog X.w X.K X.mg X.base j x ps F) (hr : Room k X.A) (tk : Takes X W) (ha : PA X (e :: es) (RdA X W fa)) (hj : j ≤ k := by first | decide | omega) (hg : Gl X x := by rfl) (hdb : (x == ("__debug__" : Str)) = false := by decide)
    (he : starEach (e :: es) X.env = (false, eval e X.env) :: starEach es X.env := by rfl) (hpl : (backTo pos (starEach es X.env)).any (·.1) = false := by rfl) :
    PE X (.Call (.Name x p) (e :: es) [] pos) (RdE X W (eCall F fa)) := by
  obtain ⟨f, fd, h1, h2, h3, h4, _⟩ := G.ex
  exact c_call h4 hr tk h1 h2 h3 G.len ha hj hg hdb he hpl
end

/-! ## what the top has written -/
section
variable {K : PySem.W.Frag} {h : Heap} {mg : Str → Option Value}
theorem has_fn {x : Str} {st : Stmt} {ps : List Str} {f : Addr} {od an : Option Addr} {sl : Array (Option Value)} {oc kV dc pm cd ct : Value} (G : h.Ns mainGlobals mg) (X : K.In h)
    (a : PySem.W.nsIn K mainGlobals x = some (some (.ref f))) (l : K.lookup f = some ⟨oc, od, .func (PySem.W.fnOf x x (defArgs st) (defBody st) (defScope st) .none kV dc pm an cd ct), sl⟩) (c : PySem.W.codeIn K cd x = true) (k : PySem.W.keepIn K (.ref f) = true)
    (hb : ∀ (kV doc pm : Value) (an : Option Addr) (cdv ct : Value) (us : List Value), us.length = ps.length → bindArgs (PySem.W.fnOf x x (defArgs st) (defBody st) (defScope st) .none kV doc pm an cdv ct) ⟨us, []⟩ = pure (ps.zip us)) : HasFn K mg x st ps := by
  have F := fun_mk (st := st) l c k
  exact ⟨f, _, F, PySem.W.mg_of X G a, F.binds hb⟩
theorem glob_int {x : Str} {i : Int} {t : Tok} (G : h.Ns mainGlobals mg) (X : K.In h) (a : PySem.W.nsIn K mainGlobals x = some (some (.int i t))) : GlobD K mg x (.int i) := ⟨_, .int i, PySem.W.mg_of X G a, ⟨t, rfl⟩, fun _ _ => rfl⟩
theorem glob_str {x : Str} {s : List Nat} {z : Str} {t : Tok} (G : h.Ns mainGlobals mg) (X : K.In h) (a : PySem.W.nsIn K mainGlobals x = some (some (.str z t))) (e : z = ⟨s.toArray⟩) : GlobD K mg x (.str s) := ⟨_, .str z, PySem.W.mg_of X G a, ⟨t, rfl⟩, fun _ _ => by rw [e]; rfl⟩
/-- written values: ints, texts, truth values, none -/
def wrD : Value → Option D
  | .none => some .non
  | .bool b => some (.bl b)
  | .int i _ => some (.int i)
  | .str z _ => some (.str z.cps.toList)
  | _ => none
def wrL : List Value → Option (List D)
  | [] => some []
  | v :: vs => (wrD v).bind fun d => (wrL vs).map fun ds => d :: ds
theorem wrD_ok {m : List Addr} {H : Hp} {u : Value} {d : D} (e : wrD u = some d) : ∃ v, RelV v u ∧ RepD K m H d v := by
  cases u with
  | none => cases e; exact ⟨.non, rfl, rfl⟩
  | bool b => cases e; exact ⟨.bl b, rfl, rfl⟩
  | int i t => cases e; exact ⟨.int i, ⟨t, rfl⟩, rfl⟩
  | str z t => cases e; exact ⟨.str z, ⟨t, rfl⟩, by show V.str z = V.str _; simp⟩
  | _ => cases e
theorem wrL_ok : ∀ {us : List Value} {ds : List D}, wrL us = some ds → ∃ vs, Vals vs us ∧ ∀ m H, RepL K m H ds vs
  | [], ds, e => by cases e; exact ⟨[], .nil, fun _ _ => rfl⟩
  | u :: us, ds, e => by
    unfold wrL at e
    cases h1 : wrD u with
    | none => rw [h1] at e; cases e
    | some d =>
      rw [h1] at e
      cases h2 : wrL us with
      | none => rw [h2] at e; cases e
      | some ds' =>
        rw [h2] at e
        cases e
        obtain ⟨vs, r, q⟩ := wrL_ok h2
        have key : ∃ v, RelV v u ∧ ∀ m H, RepD K m H d v := by
          cases u with
          | none => cases h1; exact ⟨.non, rfl, fun _ _ => rfl⟩
          | bool b => cases h1; exact ⟨.bl b, rfl, fun _ _ => rfl⟩
          | int i t => cases h1; exact ⟨.int i, ⟨t, rfl⟩, fun _ _ => rfl⟩
          | str z t => cases h1; exact ⟨.str z, ⟨t, rfl⟩, fun _ _ => by show V.str z = V.str _; simp⟩
          | _ => cases h1
        obtain ⟨v, r1, q1⟩ := key
        exact ⟨v :: vs, .cons r1 r, fun m H => ⟨v, vs, rfl, q1 m H, q m H⟩⟩
theorem glob_tup {x : Str} {a : Addr} {dd : Option Addr} {us : List Value} {n : Nat} {sl : Array (Option Value)} {ds : List D} (G : h.Ns mainGlobals mg) (X : K.In h) (e : PySem.W.nsIn K mainGlobals x = some (some (.ref a)))
    (l : K.lookup a = some ⟨.type "tuple", dd, .seq us.toArray n, sl⟩) (hs : us.length ≤ 1000) (hw : wrL us = some ds) : GlobD K mg x (.tup ds) := by
  obtain ⟨vs, r, q⟩ := wrL_ok (K := K) hw
  refine ⟨_, .ref a, PySem.W.mg_of X G e, rfl, fun m H => ⟨a, vs, rfl, .inr ⟨_, us.toArray, n, l, rfl, rfl, ?_, by simpa using r⟩, q m H⟩⟩
  rw [List.size_toArray, sizeLine_eq]
  omega
end
/-- an own exception class, read off the written part -/
structure HasExc (K : PySem.W.Frag) (mg : Str → Option Value) (c : Str) (qual : Str) (names : List Str) (st : Stmt) : Prop where
  ex : ∃ (C fI : Addr) (fd : FuncData), mg c = some (.ref C) ∧ OexC K C ∧ XfC K C ∧ (∀ n ∈ names, PySem.W.findIn K (.ref C) n = some none) ∧ PySem.W.findIn K (.ref C) "__init__" = some (some (.ref fI)) ∧ PySem.W.typeIn K (.ref fI) = some (.type "function") ∧
    Fun K "__init__" qual st fI fd ∧ Binds K fd ("self" :: names) []
section
variable {P : Program} {w : World} {K : PySem.W.Frag} {mg : Str → Option Value} {base : Heap}
theorem exc1 {c qual : Str} {n : Str} {st : Stmt} (T : HasExc K mg c qual [n] st) (S : FnScope ["self", n] ["self", n] (defScope st))
    (hb : ∀ (f : Addr) (cdv : Value) (A : Around) (outer : List Env) (s : Shared) (H : Hp) (E : XK), PSs (CB P w K mg base ["self", n] qual st f cdv A outer s H E) (defBody st) (tOst K n (tVar 0) (tVar 1))) : ExcC P w K mg base c [n] := by
  obtain ⟨C, fI, fd, h1, h2, _, h3, h4, h5, F, hB⟩ := T.ex
  exact ⟨C, fI, fd, h1, h2, h3, h4, h5, ok_init1 F S (hb fI), hB⟩
theorem exc2 {c qual : Str} {n n2 : Str} {st : Stmt} (T : HasExc K mg c qual [n, n2] st) (S : FnScope ["self", n, n2] ["self", n, n2] (defScope st))
    (hb : ∀ (f : Addr) (cdv : Value) (A : Around) (outer : List Env) (s : Shared) (H : Hp) (E : XK), PSs (CB P w K mg base ["self", n, n2] qual st f cdv A outer s H E) (defBody st) (tSeq (tOst K n (tVar 0) (tVar 1)) (tOst K n2 (tVar 0) (tVar 2)))) : ExcC P w K mg base c [n, n2] := by
  obtain ⟨C, fI, fd, h1, h2, _, h3, h4, h5, F, hB⟩ := T.ex
  exact ⟨C, fI, fd, h1, h2, h3, h4, h5, ok_init2 F S (hb fI), hB⟩
theorem has_exc {h : Heap} {c qual : Str} {names : List Str} {st : Stmt} {C fI : Addr} {nm q : Str} {N : Addr} {bs bm : List Value} {sn : List Str} {sub : List Value} {ab : Bool} {col : Option Bool} {dd : Option Addr} {k0 k1 k2 k3 k5 : Option Value}
    {od an : Option Addr} {sl : Array (Option Value)} {oc kV dc pm cd ct : Value} (G : h.Ns mainGlobals mg) (X : K.In h)
    (a : PySem.W.nsIn K mainGlobals c = some (some (.ref C))) (l : K.lookup C = some (excClassObj nm q C N bs bm true sn sub ab col dd k0 k1 k2 k3 k5 "ValueError.__new__")) (hbm : PySem.HandSPX.refsVE bm = true)
    (sa : PySem.W.findIn K (.ref C) "__setattr__" = some (some (.builtin "object.__setattr__"))) (exC : PySem.W.subIn K (.ref C) (.type "BaseException") = some true) (tyC : PySem.W.typeIn K (.ref C) = some (.type "type")) (kC : PySem.W.keepIn K (.ref C) = true)
    (ga : PySem.W.findIn K (.ref C) "__getattribute__" = some (some (.builtin "BaseException.__getattribute__"))) (gg : PySem.W.findIn K (.ref C) "__getattr__" = some none) (hd : PySem.W.hasDictIn K C = true)
    (hn : ∀ n ∈ names, PySem.W.findIn K (.ref C) n = some none) (iC : PySem.W.findIn K (.ref C) "__init__" = some (some (.ref fI))) (tI : PySem.W.typeIn K (.ref fI) = some (.type "function"))
    (lf : K.lookup fI = some ⟨oc, od, .func (PySem.W.fnOf "__init__" qual (defArgs st) (defBody st) (defScope st) .none kV dc pm an cd ct), sl⟩) (cf : PySem.W.codeIn K cd qual = true) (kf : PySem.W.keepIn K (.ref fI) = true)
    (hb : ∀ (kV doc pm : Value) (an : Option Addr) (cdv ct : Value) (us : List Value), us.length = ("self" :: names : List Str).length → bindArgs (PySem.W.fnOf "__init__" qual (defArgs st) (defBody st) (defScope st) .none kV doc pm an cdv ct) ⟨us, []⟩ = pure (("self" :: names : List Str).zip us)) :
    HasExc K mg c qual names st := by
  have F := fun_mk (st := st) lf cf kf
  exact ⟨C, fI, _, PySem.W.mg_of X G a, ⟨⟨nm, q, N, bs, bm, sn, sub, ab, col, dd, k0, k1, k2, k3, k5, l, hbm⟩, sa, exC, tyC, kC⟩, ⟨ga, gg, exC, hd⟩, hn, iC, tI, F, F.binds hb⟩
end

/-! ## which class catches which -/
theorem exm_of {K : PySem.W.Frag} {S T : Addr} {b : Bool} (h1 : PySem.W.subIn K (.ref T) (.type "BaseException") = some true) (h2 : PySem.W.isClsIn K T = true) (h3 : PySem.W.typeIn K (.ref T) = some (.type "type")) (h4 : PySem.W.subIn K (.ref S) (.ref T) = some b) :
    PySem.W.exmOne K (.ref S) (.ref T) = some b := by
  have e1 : (PySem.W.subIn K (.ref T) (.type "BaseException") == some true) = true := by rw [h1] <;> rfl
  have e2 : ((PySem.W.clsIn K T).isSome && PySem.W.typeIn K (.ref T) == some (.type "type")) = true := by
    rw [show (PySem.W.clsIn K T).isSome = true from h2, h3] <;> rfl
  unfold PySem.W.exmOne
  rw [if_pos e1]
  show (if ((PySem.W.clsIn K T).isSome && PySem.W.typeIn K (.ref T) == some (.type "type")) = true then PySem.W.subIn K (.ref S) (.ref T) else none) = some b
  rw [if_pos e2]
  exact h4
def ExL (K : PySem.W.Frag) (mg : Str → Option Value) (x : Str) (cs : List Str) (C : Addr) : Prop := ∀ c ∈ cs, ∀ C' : Addr, mg c = some (.ref C') → PySem.W.exmOne K (.ref C') (.ref C) = some (decide (c = x))
section
variable {K : PySem.W.Frag} {h : Heap} {mg : Str → Option Value}
theorem exl_nil {x : Str} {C : Addr} : ExL K mg x [] C := fun c hc => by cases hc
theorem exl_cons {x c1 : Str} {cs : List Str} {C C1 : Addr} {b : Bool} (G : h.Ns mainGlobals mg) (X : K.In h) (h1 : PySem.W.subIn K (.ref C) (.type "BaseException") = some true) (h2 : PySem.W.isClsIn K C = true) (h3 : PySem.W.typeIn K (.ref C) = some (.type "type"))
    (a : PySem.W.nsIn K mainGlobals c1 = some (some (.ref C1))) (s : PySem.W.subIn K (.ref C1) (.ref C) = some b) (hb : b = decide (c1 = x)) (r : ExL K mg x cs C) : ExL K mg x (c1 :: cs) C := by
  intro c hc C' hm
  rcases List.mem_cons.mp hc with e | hc
  · subst e
    rw [PySem.W.mg_of X G a] at hm
    cases hm
    rw [← hb]
    exact exm_of h1 h2 h3 s
  · exact r c hc C' hm
theorem exl_of {x : Str} {cs : List Str} {C0 : Addr} (G : h.Ns mainGlobals mg) (X : K.In h) (a0 : PySem.W.nsIn K mainGlobals x = some (some (.ref C0))) (r : ExL K mg x cs C0) : ∀ C : Addr, mg x = some (.ref C) → ExL K mg x cs C := by
  intro C hm
  rw [PySem.W.mg_of X G a0] at hm
  cases hm
  exact r
end
theorem no_exc {P : Program} {w : World} {H : Hp} {s : Shared} {e : Value} {s' : Shared} (x : L2.CX P w [] H s (fun _ _ _ => False) e s') : False := by
  obtain ⟨_, _, _, _, _, _, _, _, _, _, _, _, z⟩ := x
  exact z

/-! ## the law's own call -/
/-- the promise of the law: called with a list of whole numbers that stands still -/
def spLaw (K : PySem.W.Frag) : Sp := fun vs H Q _ => ∃ (a : Addr) (ns : List Int), vs = [.ref a] ∧ ns.length ≤ 63 ∧ Scr K H a (ns.map V.int) ∧ ∀ H', Q (.bl true) H'
theorem law_ok {P : Program} {w : World} {K : PySem.W.Frag} {mg : Str → Option Value} {base : Heap} {L : Nat} {x : Str} {f : Addr} {fd : FuncData} {F : List D → HH → R D} (G : FnOk P w K mg base (L2.CX P w) L f fd [x] (spF K mg 1 F))
    (hF : ∀ ns : List Int, ns.length ≤ 63 → ∃ h', F [.ref 0] [.scr (ns.map D.int)] = .ok (.bl true) h') : FnOk P w K mg base (L2.CX P w) L f fd [x] (spLaw K) := by
  refine G.imp fun vs H Q E ⟨a, ns, e, hl, hs, q⟩ => ?_
  subst e
  obtain ⟨h', e⟩ := hF ns hl
  refine ⟨rfl, [a], [.scr (ns.map D.int)], [.ref 0], ⟨rfl, fun n b c e1 e2 => ?_, fun i j b c d _ _ e3 _ hc _ => ?_⟩, ⟨.ref a, [], rfl, ⟨a, rfl, rfl⟩, rfl⟩, ?_⟩
  · cases n with
    | zero =>
      cases e1
      cases e2
      exact ⟨_, hs, RepL.ints ns⟩
    | succ n => simp at e1
  · cases i with
    | zero =>
      cases e3
      cases hc
    | succ i => simp at e3
  · rw [e]
    intro m' H' v p k hh r
    have r' : v = .bl true := r
    rw [r']
    exact q H'
/-- the end: the law's def by its function -/
theorem fin_law {l : PySem.W.OpenLaw} {w : World} {K : PySem.W.Frag} {mg : Str → Option Value} {fa : Addr} {st : Stmt} {L : Nat} {F : List D → HH → R D} (hfa : mg "law" = some (.ref fa)) (T : HasFn K mg "law" st ["script"])
    (ok : ∀ base : Heap, OkFn l.prog w K mg base L "law" ["script"] F) (hF : ∀ ns : List Int, ns.length ≤ 63 → ∃ h', F [.ref 0] [.scr (ns.map D.int)] = .ok (.bl true) h')
    (hb : ∀ (kV doc pm : Value) (an : Option Addr) (cdv ct : Value) (v : Value), bindArgs (PySem.W.fnOf "law" "law" (defArgs st) (defBody st) (defScope st) .none kV doc pm an cdv ct) ⟨[v], []⟩ = pure [(("script" : Str), v)]) :
    ∃ fd : FuncData, (∀ (s : Shared) (v : Value), BindsTo s fd ⟨[v], []⟩ [(("script" : Str), v)]) ∧ ∀ base : Heap, K.In base → base.Ns mainGlobals mg → FnOk l.prog w K mg base (L2.CX l.prog w) L fa fd ["script"] (spLaw K) := by
  obtain ⟨f, fd, Fn, hm, _⟩ := T.ex
  rw [hm] at hfa
  cases hfa
  obtain ⟨oc, od, kV, doc, pm, an, cdv, ct, osl, e, lk, _⟩ := Fn.ex
  refine ⟨fd, fun s v => ?_, fun base _ _ => ?_⟩
  · rw [e]
    exact .of_eq (hb kV doc pm an cdv ct v)
  · obtain ⟨f', fd', h1, _, _, h4, oc', od', sl', lk'⟩ := (ok base).ex
    rw [hm] at h1
    cases h1
    rw [lk] at lk'
    cases lk'
    exact law_ok h4 hF
theorem scr_of {K : PySem.W.Frag} {H : Hp} {a : Addr} {xs : List V} (o : Only H) (h : SqL K H a xs) : Scr K H a xs := by
  rcases h with (h | ⟨u, h⟩) | h
  · rcases o a with z | ⟨ob, ys, z⟩
    · rw [z] at h; cases h
    · rw [z] at h; cases h
  · exact .inl ⟨u, h⟩
  · exact .inr (.inr h)
end Py
set_option Elab.async false
set_option linter.all false
set_option maxRecDepth 100000
set_option maxHeartbeats 4000000
namespace Py
open PySem PySem.Spec PyProof.Rows L2
theorem sizeLine_v : sizeLine = 16777216 := rfl
theorem pMul_ok {i j : Int} {h : HH} (c : CMul i j) : pMul (.int i) (.int j) h = some (.int (i * j), h) := by
  unfold pMul
  exact if_pos c
/-! ## plain facts of heaps -/
/-- only the cell b may differ; new cells may stand behind -/
def Ext (b : Nat) (h h' : HH) : Prop := h.length ≤ h'.length ∧ ∀ i, i ≠ b → i < h.length → h'[i]? = h[i]?
theorem Ext.refl (b : Nat) (h : HH) : Ext b h h := ⟨Nat.le_refl _, fun _ _ _ => rfl⟩
theorem Ext.trans {b : Nat} {h h1 h2 : HH} (p : Ext b h h1) (q : Ext b h1 h2) : Ext b h h2 :=
  ⟨Nat.le_trans p.1 q.1, fun i hi hl => (q.2 i hi (Nat.lt_of_lt_of_le hl p.1)).trans (p.2 i hi hl)⟩
theorem Ext.set {b : Nat} {h : HH} {c : Cell} : Ext b h (h.set b c) := ⟨by simp, fun i hi _ => by rw [List.getElem?_set]; rw [if_neg (by omega)]⟩
theorem Ext.set_new {b r : Nat} {h h' : HH} {c : Cell} (p : Ext b h h') (hr : h.length ≤ r) : Ext b h (h'.set r c) :=
  ⟨by rw [List.length_set]; exact p.1, fun i hi hl => by rw [List.getElem?_set, if_neg (by omega)]; exact p.2 i hi hl⟩
theorem Ext.app {b : Nat} {h t : HH} : Ext b h (h ++ t) := ⟨by simp, fun i _ hl => List.getElem?_append_left hl⟩
theorem Ext.get {b i : Nat} {h h' : HH} {c : Cell} (p : Ext b h h') (hi : i ≠ b) (e : h[i]? = some c) : h'[i]? = some c := by
  obtain ⟨hl, _⟩ := List.getElem?_eq_some_iff.mp e
  rw [p.2 i hi hl, e]
theorem itemsL_lst {h : HH} {n : Nat} {xs : List D} (e : h[n]? = some (.lst xs)) : itemsL h n = some xs := by unfold itemsL; rw [e]
theorem itemsL_scr {h : HH} {n : Nat} {xs : List D} (e : h[n]? = some (.scr xs)) : itemsL h n = some xs := by unfold itemsL; rw [e]
theorem lstOf_lst {h : HH} {n : Nat} {xs : List D} (e : h[n]? = some (.lst xs)) : lstOf h n = some xs := by unfold lstOf; rw [e]
theorem get_set_same {h : HH} {n : Nat} {c d : Cell} (e : h[n]? = some d) : (h.set n c)[n]? = some c := by
  obtain ⟨hl, _⟩ := List.getElem?_eq_some_iff.mp e
  rw [List.getElem?_set_self hl]
theorem get_app_new {h : HH} {c : Cell} : (h ++ [c])[h.length]? = some c := by simp
theorem get_app_old {h t : HH} {n : Nat} {c : Cell} (e : h[n]? = some c) : (h ++ t)[n]? = some c := by
  obtain ⟨hl, _⟩ := List.getElem?_eq_some_iff.mp e
  rw [List.getElem?_append_left hl, e]
theorem atI_nat {α : Type} {xs : List α} (i : Nat) : L2.atI xs (i : Int) = xs[i]? := by
  unfold L2.atI ixN
  by_cases hi : i < xs.length
  · rw [if_pos (by omega), if_pos (by omega)]
    simp
  · rw [if_pos (by omega), if_neg (by omega)]
    simp; omega
theorem atI_at {α : Type} {xs : List α} {i : Int} {a : α} (h0 : 0 ≤ i) (e : xs[i.toNat]? = some a) : L2.atI xs i = some a := by
  obtain ⟨n, rfl⟩ := Int.eq_ofNat_of_zero_le h0
  rw [atI_nat]
  exact e
/-- the bag of draws stands at b -/
def Bag (b : Nat) (h : HH) : Prop := ∃ b0 b1 b2 b3 : Int, 0 ≤ b0 ∧ 0 ≤ b1 ∧ h[b]? = some (.lst [.int b0, .int b1, .int b2, .int b3])
theorem Bag.app {b : Nat} {h t : HH} (B : Bag b h) : Bag b (h ++ t) := by
  obtain ⟨b0, b1, b2, b3, h0, h1, e⟩ := B
  exact ⟨b0, b1, b2, b3, h0, h1, get_app_old e⟩
theorem Bag.ext {b c : Nat} {h h' : HH} (B : Bag b h) (hc : b ≠ c) (x : Ext c h h') : Bag b h' := by
  obtain ⟨b0, b1, b2, b3, h0, h1, e⟩ := B
  exact ⟨b0, b1, b2, b3, h0, h1, x.get hc e⟩
end Py
namespace Py
open PySem PySem.Spec PyProof.Rows L2
/-! ## rules for loops -/
/-- what a loop's body must give -/
def StepQ (I : Rho → HH → Prop) (Q : O → Prop) : O → Prop
  | .nx ρ h => I ρ h
  | .ct ρ h => I ρ h
  | .bk ρ h => Q (.nx ρ h)
  | o => Q o
theorem forL_rule {gd : HH → Prop} {g : TgS} {b : SS} (I : Nat → Rho → HH → Prop) (Q : O → Prop) : ∀ (xs : List D) (n : Nat) (ρ : Rho) (h : HH),
    (∀ i d ρ h, xs[i]? = some d → I (n + i) ρ h → gd h ∧ ∃ ρ1, g d ρ h = some ρ1 ∧ StepQ (I (n + i + 1)) Q (b ρ1 h)) → (∀ ρ h, I (n + xs.length) ρ h → gd h ∧ Q (.nx ρ h)) → I n ρ h → Q (forL gd g b xs ρ h)
  | [], n, ρ, h, _, hq, i => by
    obtain ⟨h1, h2⟩ := hq ρ h i
    unfold forL
    rw [if_pos h1]
    exact h2
  | d :: xs, n, ρ, h, hb, hq, i => by
    obtain ⟨h1, ρ1, h2, h3⟩ := hb 0 d ρ h rfl i
    have ih := fun ρ' h' => forL_rule I Q xs (n + 1) ρ' h' (fun i d ρ h hi hI => by
      have := hb (i + 1) d ρ h (by simpa using hi) (by rw [show n + (i + 1) = n + 1 + i by omega]; exact hI)
      rw [show n + (i + 1) + 1 = n + 1 + i + 1 by omega] at this
      exact this) (fun ρ h hI => hq ρ h (by rw [List.length_cons, show n + (xs.length + 1) = n + 1 + xs.length by omega]; exact hI)) 
    unfold forL
    rw [if_pos h1, h2]
    dsimp only
    cases e : b ρ1 h with
    | nx ρ' h' => rw [e] at h3; exact ih _ _ h3
    | ct ρ' h' => rw [e] at h3; exact ih _ _ h3
    | bk ρ' h' => rw [e] at h3; exact h3
    | rt d h' => rw [e] at h3; exact h3
    | ex c fs ρ' h' => rw [e] at h3; exact h3
    | bad => rw [e] at h3; exact h3
theorem forL_run {gd : HH → Prop} {g : TgS} {b : SS} {xs : List D} {ρ : Rho} {h : HH} {o : O} (ho : forL gd g b xs ρ h = o) (I : Nat → Rho → HH → Prop) (Q : O → Prop)
    (hb : ∀ i d ρ h, xs[i]? = some d → I i ρ h → gd h ∧ ∃ ρ1, g d ρ h = some ρ1 ∧ StepQ (I (i + 1)) Q (b ρ1 h)) (hq : ∀ ρ h, I xs.length ρ h → gd h ∧ Q (.nx ρ h)) (h0 : I 0 ρ h) : Q o := by
  subst ho
  exact forL_rule I Q xs 0 ρ h (fun i d ρ h hi hI => by rw [Nat.zero_add] at hI ⊢; exact hb i d ρ h hi hI) (fun ρ h hI => by rw [Nat.zero_add] at hI; exact hq ρ h hI) h0
theorem while_rule {c : TS'} {b : SS} (I : Nat → Rho → HH → Prop) (Q : O → Prop) (hb : ∀ n ρ h, I n ρ h → ∃ t h1, c ρ h = .ok t h1 ∧ (if t = true then StepQ (fun ρ' h' => ∃ m, m < n ∧ I m ρ' h') Q (b ρ h1) else Q (.nx ρ h1))) :
    ∀ (n : Nat) (ρ : Rho) (h : HH), I n ρ h → Q (sWhile c b ρ h) := by
  intro n
  induction n using Nat.strongRecOn with
  | _ n ih =>
    intro ρ h hI
    obtain ⟨t, h1, e1, e2⟩ := hb n ρ h hI
    rw [sWhile_eq, e1]
    dsimp only [bindS]
    by_cases ht : t = true
    · rw [if_pos ht] at e2 ⊢
      cases e : b ρ h1 with
      | nx ρ' h' => rw [e] at e2; obtain ⟨m, hm, hI⟩ := e2; exact ih m hm _ _ hI
      | ct ρ' h' => rw [e] at e2; obtain ⟨m, hm, hI⟩ := e2; exact ih m hm _ _ hI
      | bk ρ' h' => rw [e] at e2; exact e2
      | rt d h' => rw [e] at e2; exact e2
      | ex c fs ρ' h' => rw [e] at e2; exact e2
      | bad => rw [e] at e2; exact e2
    · rw [if_neg ht] at e2 ⊢
      exact e2
theorem while_run {c : TS'} {b : SS} {ρ : Rho} {h : HH} {o : O} (ho : sWhile c b ρ h = o) (I : Nat → Rho → HH → Prop) (Q : O → Prop) (n : Nat) (h0 : I n ρ h)
    (hb : ∀ n ρ h, I n ρ h → ∃ t h1, c ρ h = .ok t h1 ∧ (if t = true then StepQ (fun ρ' h' => ∃ m, m < n ∧ I m ρ' h') Q (b ρ h1) else Q (.nx ρ h1))) : Q o := by
  subst ho
  exact while_rule I Q hb n ρ h h0
/-- a comprehension whose elements do not look at the heap -/
theorem compL_map {α : Type} {gd : HH → Prop} {g : TgS} {e : ES} {ρ : Rho} {n : Nat} (r f : α → D) : ∀ (xs : List α) (acc : List D) (h : HH), (∀ d ∈ xs, ∀ h, ∃ ρ1, g (r d) ρ h = some ρ1 ∧ e ρ1 h = .ok (f d) h) → (∀ c, gd (h.set n c)) → h[n]? = some (.lst acc) → acc.length + xs.length ≤ sizeLine →
    compL gd g tYes' e ρ n (xs.map r) h = some (h.set n (.lst (acc ++ xs.map f)))
  | [], acc, h, _, hgd, hn, _ => by
    have hs : h.set n (.lst acc) = h := by
      obtain ⟨hl, e⟩ := List.getElem?_eq_some_iff.mp hn
      rw [← e, List.set_getElem_self]
    rw [List.map_nil]
    unfold compL
    have := hgd (.lst acc)
    rw [hs] at this
    rw [if_pos this, List.map_nil, List.append_nil, hs]
  | d :: xs, acc, h, he, hgd, hn, hl => by
    have hs : h.set n (.lst acc) = h := by
      obtain ⟨hl, e⟩ := List.getElem?_eq_some_iff.mp hn
      rw [← e, List.set_getElem_self]
    have h0 := hgd (.lst acc)
    rw [hs] at h0
    obtain ⟨ρ1, e1, e2⟩ := he d (by simp) h
    rw [List.map_cons]
    unfold compL
    rw [if_pos h0, e1]
    dsimp only [tYes']
    rw [e2]
    dsimp only
    rw [lstOf_lst hn]
    dsimp only
    rw [List.length_cons] at hl
    rw [if_pos (by omega), compL_map r f xs (acc ++ [f d]) _ (fun d hd => he d (by simp [hd])) (fun c => by rw [List.set_set]; exact hgd c) (get_set_same hn) (by simp; omega)]
    rw [List.set_set]
    simp
theorem compL_new {α : Type} {gd : HH → Prop} {g : TgS} {e : ES} {ρ : Rho} {h : HH} (r f : α → D) (xs : List α) (he : ∀ d ∈ xs, ∀ h, ∃ ρ1, g (r d) ρ h = some ρ1 ∧ e ρ1 h = .ok (f d) h) (hgd : ∀ c, gd (h ++ [c])) (hl : xs.length ≤ sizeLine) :
    compL gd g tYes' e ρ h.length (xs.map r) (h ++ [.lst []]) = some (h ++ [.lst (xs.map f)]) := by
  have q := compL_map (gd := gd) (n := h.length) r f xs [] (h ++ [Cell.lst []]) he (fun c => by
    rw [List.set_append_right _ _ (Nat.le_refl _), Nat.sub_self]
    exact hgd c) get_app_new (by simpa using hl)
  rw [List.set_append_right _ _ (Nat.le_refl _), Nat.sub_self] at q
  exact q
/-- same heap, new cells -/
theorem get_lt {h : HH} {n : Nat} {c : Cell} (e : h[n]? = some c) : n < h.length := (List.getElem?_eq_some_iff.mp e).1
theorem sIx_top (n d : Nat) : HT.sIx n d (some (n : Int)) = n := by rw [HT.sIx_nat]; omega
theorem cutL_take {α : Type} {xs : List α} (k : Nat) : cutL xs none (some (k : Int)) = xs.take k := by
  unfold cutL
  rw [HT.sIx_nat, HT.sIx_none, List.drop_zero, Nat.sub_zero]
  by_cases h : k ≤ xs.length
  · rw [Nat.min_eq_left h]
  · rw [Nat.min_eq_right (by omega), List.take_of_length_le (Nat.le_refl _), List.take_of_length_le (by omega)]
theorem cutL_drop {α : Type} {xs : List α} (k : Nat) : cutL xs (some (k : Int)) none = xs.drop k := by
  unfold cutL
  rw [HT.sIx_nat, HT.sIx_none, List.take_of_length_le (by rw [List.length_drop]; omega)]
  by_cases h : k ≤ xs.length
  · rw [Nat.min_eq_left h]
  · rw [Nat.min_eq_right (by omega), List.drop_of_length_le (Nat.le_refl _), List.drop_of_length_le (by omega)]
theorem cutL_mid {α : Type} {xs : List α} (a b : Nat) : cutL xs (some (a : Int)) (some (b : Int)) = (xs.drop a).take (b - a) := by
  unfold cutL
  rw [HT.sIx_nat, HT.sIx_nat]
  by_cases h : a ≤ xs.length
  · rw [Nat.min_eq_left h]
    by_cases h2 : b ≤ xs.length
    · rw [Nat.min_eq_left h2]
    · rw [Nat.min_eq_right (by omega), List.take_of_length_le (by rw [List.length_drop]; omega), List.take_of_length_le (by rw [List.length_drop]; omega)]
  · rw [Nat.min_eq_right (by omega : xs.length ≤ a), List.drop_of_length_le (Nat.le_refl _), List.drop_of_length_le (by omega)]
    simp
theorem int_of {i : Int} (h : 0 ≤ i) : ∃ n : Nat, i = n := Int.eq_ofNat_of_zero_le h
theorem rgD_get {lo : Int} {n i : Nat} {d : D} (e : (rgD lo n)[i]? = some d) : i < n ∧ d = .int (lo + (i : Int)) := by
  unfold rgD at e
  rw [List.getElem?_map] at e
  by_cases hi : i < n
  · rw [List.getElem?_range hi] at e
    simp at e
    exact ⟨hi, e.symm⟩
  · rw [List.getElem?_eq_none (by simp; omega)] at e
    simp at e
theorem pairsD_at {xs : List D} {i : Nat} {d : D} (e : (pairsD xs)[i]? = some d) : ∃ x, xs[i]? = some x ∧ d = .tup [.int (i : Int), x] := by
  have hi : i < xs.length := by
    have := (List.getElem?_eq_some_iff.mp e).1
    simpa [pairsD] using this
  have := pairsD_get (List.getElem?_eq_getElem hi)
  rw [this] at e
  exact ⟨_, List.getElem?_eq_getElem hi, (Option.some.inj e).symm⟩
theorem pairsD_len {xs : List D} : (pairsD xs).length = xs.length := by simp [pairsD]
theorem at30 {a b c : D} : L2.atI [a, b, c] 0 = some a := rfl
theorem at31 {a b c : D} : L2.atI [a, b, c] 1 = some b := rfl
theorem at32 {a b c : D} : L2.atI [a, b, c] 2 = some c := rfl
theorem at20 {a b : D} : L2.atI [a, b] 0 = some a := rfl
theorem at21 {a b : D} : L2.atI [a, b] 1 = some b := rfl
theorem rgD_len {lo : Int} {n : Nat} : (rgD lo n).length = n := by simp [rgD]
end Py
set_option Elab.async false
set_option linter.all false
set_option maxRecDepth 100000
set_option maxHeartbeats 4000000
namespace Py
open PySem PySem.Spec PyProof.Rows L2
/-- the signs of a small number -/
def sgN (x : Nat) : List Nat := if x < 10 then [48 + x] else if x < 100 then [48 + x / 10, 48 + x % 10] else [48 + x / 100, 48 + x / 10 % 10, 48 + x % 10]
theorem signs_tab : ∀ x < 401, signs (x : Nat) = sgN x := by decide +kernel
/-! ## k75: plain texts -/
def lcp : List Nat → List Nat → Nat
  | x :: s, y :: c => if x = y then lcp s c + 1 else 0
  | _, _ => 0
theorem lcp_le_left : ∀ s c : List Nat, lcp s c ≤ s.length
  | [], _ => Nat.le_refl _
  | _ :: _, [] => Nat.zero_le _
  | x :: s, y :: c => by
    unfold lcp
    have := lcp_le_left s c
    split <;> simp <;> omega
theorem lcp_le_right : ∀ s c : List Nat, lcp s c ≤ c.length
  | [], _ => Nat.zero_le _
  | _ :: _, [] => Nat.zero_le _
  | x :: s, y :: c => by
    unfold lcp
    have := lcp_le_right s c
    split <;> simp <;> omega
theorem le_lcp : ∀ (m : Nat) (s c : List Nat), m ≤ lcp s c ↔ m ≤ s.length ∧ m ≤ c.length ∧ s.take m = c.take m
  | 0, s, c => by simp
  | m + 1, [], c => by simp [lcp]
  | m + 1, x :: s, [] => by simp [lcp]
  | m + 1, x :: s, y :: c => by
    unfold lcp
    have ih := le_lcp m s c
    by_cases h : x = y
    · rw [if_pos h]
      simp only [Nat.add_le_add_iff_right, List.length_cons, List.take_succ_cons, List.cons.injEq, ih]
      simp [h]
    · rw [if_neg h]
      simp [h]
theorem lcp_full (s c : List Nat) : lcp s c = c.length ↔ c <+: s := by
  have h := le_lcp c.length s c
  have h2 := lcp_le_right s c
  constructor
  · intro e
    obtain ⟨a, _, b⟩ := h.mp (by omega)
    rw [List.take_length] at b
    rw [← b]
    exact List.take_prefix _ _
  · intro p
    have hl := p.length_le
    have := h.mpr ⟨hl, Nat.le_refl _, by rw [List.take_length]; exact (List.prefix_iff_eq_take.mp p).symm⟩
    omega
/-- a stage: the first of the texts that stands there, else how far the best goes -/
def stgGo (s : List Nat) : List (List Nat) → Nat → Nat → Option Nat × Nat
  | [], _, best => (none, best)
  | c :: C, k, best => if lcp s c = c.length then (some k, c.length) else stgGo s C (k + 1) (max best (lcp s c))
theorem stg_hit {s : List Nat} : ∀ {C : List (List Nat)} {k : Nat} {c : List Nat} (k0 b : Nat), C[k]? = some c → c <+: s → (∀ j c', j < k → C[j]? = some c' → ¬ c' <+: s) → stgGo s C k0 b = (some (k0 + k), c.length)
  | [], k, c, k0, b, e, _, _ => by simp at e
  | d :: C, 0, c, k0, b, e, p, _ => by
    obtain rfl : d = c := by simpa using e
    unfold stgGo
    rw [if_pos ((lcp_full _ _).mpr p)]
    rfl
  | d :: C, k + 1, c, k0, b, e, p, n => by
    unfold stgGo
    rw [if_neg fun z => n 0 d (by omega) rfl ((lcp_full _ _).mp z)]
    rw [stg_hit (k0 + 1) _ (by simpa using e) p fun j c' hj hc => n (j + 1) c' (by omega) (by simpa using hc)]
    congr 2
    omega
theorem stg_miss' {s : List Nat} : ∀ {C : List (List Nat)} {m : Nat} (k0 b : Nat), (∀ c ∈ C, ¬ c <+: s) → (∀ c ∈ C, lcp s c ≤ m) → ((∃ c ∈ C, lcp s c = m) ∨ b = m) → b ≤ m → stgGo s C k0 b = (none, m)
  | [], m, k0, b, _, _, e, _ => by
    rcases e with ⟨c, hc, _⟩ | e
    · simp at hc
    · rw [e]; rfl
  | d :: C, m, k0, b, n, u, e, hb => by
    unfold stgGo
    rw [if_neg fun z => n d (by simp) ((lcp_full _ _).mp z)]
    have hd := u d (by simp)
    refine stg_miss' _ _ (fun c hc => n c (by simp [hc])) (fun c hc => u c (by simp [hc])) ?_ (by omega)
    rcases e with ⟨c, hc, e⟩ | e
    · rcases List.mem_cons.mp hc with rfl | hc
      · exact .inr (by omega)
      · exact .inl ⟨c, hc, e⟩
    · exact .inr (by omega)
theorem stg_miss {s : List Nat} {C : List (List Nat)} {m : Nat} (k0 : Nat) (n : ∀ c ∈ C, ¬ c <+: s) (u : ∀ c ∈ C, lcp s c ≤ m) (e : ∃ c ∈ C, lcp s c = m) : stgGo s C k0 0 = (none, m) := stg_miss' k0 0 n u (.inl e) (Nat.zero_le _)

/-! ### numbers -/
def dig (c : Nat) : Prop := 48 ≤ c ∧ c < 58
instance (c : Nat) : Decidable (dig c) := by unfold dig; infer_instance
def canB (n lo hi : Nat) : Prop := (lo ≤ n ∧ n ≤ hi) ∨ (0 < n ∧ lo ≤ 10 * n + 9 ∧ 10 * n ≤ hi) ∨ (0 < n ∧ lo ≤ 100 * n + 99 ∧ 100 * n ≤ hi)
instance (n lo hi : Nat) : Decidable (canB n lo hi) := by unfold canB; infer_instance
inductive NR where
  | hit (v len : Nat)
  | miss (m : Nat)
def nFin (lo v j : Nat) : NR := if j = 0 ∨ v < lo then .miss j else .hit v j
def rdN (lo hi : Nat) : List Nat → Nat → Nat → NR
  | [], v, j => nFin lo v j
  | c :: s, v, j => if dig c then (if (0 < j ∧ v = 0) ∨ ¬ canB (10 * v + (c - 48)) lo hi then .miss j else rdN lo hi s (10 * v + (c - 48)) (j + 1)) else nFin lo v j
def rdC (lo hi sep : Nat) (s : List Nat) : NR := match rdN lo hi s 0 0 with
  | .miss m => .miss m
  | .hit v len => if s[len]? = some sep then .hit v (len + 1) else .miss len
def cand (lo hi sep : Nat) : List (List Nat) := (List.range' lo (hi + 1 - lo)).map fun x => sgN x ++ [sep]
theorem sgN_dig {x : Nat} (h : x < 1000) : ∀ c ∈ sgN x, dig c := by
  intro c hc
  unfold sgN at hc
  unfold dig
  split at hc
  · simp at hc; omega
  · split at hc
    · simp at hc; omega
    · simp at hc; omega
theorem sgN_pos (x : Nat) : 0 < (sgN x).length := by
  unfold sgN
  split
  · simp
  · split <;> simp
/-- what begins with the signs of v -/
theorem sgN_pre {v x : Nat} (hv : v < 1000) (hx : x < 1000) : sgN v <+: sgN x ↔ x = v ∨ (0 < v ∧ (x / 10 = v ∨ x / 100 = v)) := by
  unfold sgN
  split <;> split <;> (try split) <;> (try split) <;> simp only [List.cons_prefix_cons, List.nil_prefix, List.prefix_nil, and_true, reduceCtorEq, and_false, false_iff, List.cons_ne_nil] <;> omega
theorem sgN_snoc {v d : Nat} (h0 : 0 < v) (hd : d < 10) (h : 10 * v + d < 1000) : sgN (10 * v + d) = sgN v ++ [48 + d] := by
  unfold sgN
  by_cases h1 : v < 10
  · rw [if_neg (by omega), if_pos (by omega), if_pos h1]
    simp; omega
  · rw [if_neg (by omega), if_neg (by omega), if_neg h1, if_pos (by omega)]
    simp; omega
theorem no_zero {x d : Nat} (hx : x < 1000) : ¬ [48, d] <+: sgN x := by
  unfold sgN
  split
  · simp
  · split
    · simp; omega
    · simp; omega
theorem canB_iff {n lo hi : Nat} (hn : n < 1000) (hh : hi < 1000) (hl : lo ≤ hi) : canB n lo hi ↔ ∃ x, lo ≤ x ∧ x ≤ hi ∧ sgN n <+: sgN x := by
  constructor
  · rintro (h | h | h)
    · exact ⟨n, h.1, h.2, List.prefix_refl _⟩
    · refine ⟨max lo (10 * n), by omega, by omega, (sgN_pre hn (by omega)).mpr (.inr ⟨h.1, .inl (by omega)⟩)⟩
    · refine ⟨max lo (100 * n), by omega, by omega, (sgN_pre hn (by omega)).mpr (.inr ⟨h.1, .inr (by omega)⟩)⟩
  · rintro ⟨x, h1, h2, p⟩
    unfold canB
    rcases (sgN_pre hn (by omega)).mp p with h | ⟨h, h | h⟩ <;> omega
theorem canB_le {n lo hi : Nat} (h : canB n lo hi) : n ≤ hi := by
  unfold canB at h
  omega
theorem mem_cand {lo hi sep : Nat} {c : List Nat} : c ∈ cand lo hi sep ↔ ∃ x, lo ≤ x ∧ x ≤ hi ∧ c = sgN x ++ [sep] := by
  unfold cand
  simp only [List.mem_map, List.mem_range'_1]
  constructor
  · rintro ⟨x, h, rfl⟩; exact ⟨x, by omega, by omega, rfl⟩
  · rintro ⟨x, h1, h2, rfl⟩; exact ⟨x, by omega, rfl⟩
/-- the digits of a number end at the first sign that is none -/
theorem pre_cases {P : List Nat} {s t : List Nat} {x sep : Nat} (hx : x < 1000) (hsep : ¬ dig sep) (hP : ∀ c ∈ P, dig c) (e : s = P ++ t) (m : Nat) (hm : m ≤ lcp s (sgN x ++ [sep])) (hPm : P.length < m) : ∃ c t', t = c :: t' ∧ ((P ++ [c] <+: sgN x ∧ dig c) ∨ (P = sgN x ∧ c = sep)) := by
  subst e
  obtain ⟨h1, h2, h3⟩ := (le_lcp _ _ _).mp hm
  have h4 : (P ++ t).take (P.length + 1) = (sgN x ++ [sep]).take (P.length + 1) := by
    have := congrArg (List.take (P.length + 1)) h3
    rw [List.take_take, List.take_take, Nat.min_eq_left (by omega)] at this
    exact this
  rw [List.length_append] at h1 h2
  cases t with
  | nil => simp at h1; omega
  | cons c t' =>
    refine ⟨c, t', rfl, ?_⟩
    have h5 : (P ++ c :: t').take (P.length + 1) = P ++ [c] := by
      rw [List.take_append, List.take_of_length_le (by omega)]
      simp
    rw [h5] at h4
    simp only [List.length_singleton] at h2
    by_cases hl : P.length < (sgN x).length
    · left
      rw [List.take_append_of_le_length (by omega)] at h4
      have hp : P ++ [c] <+: sgN x := by rw [h4]; exact List.take_prefix _ _
      exact ⟨hp, sgN_dig hx c (hp.subset (by simp))⟩
    · right
      have hl2 : P.length = (sgN x).length := by omega
      rw [hl2, List.take_of_length_le (by simp)] at h4
      have := List.append_inj' h4 rfl
      exact ⟨this.1, by simpa using this.2⟩
theorem cand_get {lo hi sep v : Nat} (h1 : lo ≤ v) (h2 : v ≤ hi) : (cand lo hi sep)[v - lo]? = some (sgN v ++ [sep]) := by
  unfold cand
  rw [List.getElem?_map, List.getElem?_range' (by omega)]
  simp
  congr 1
  omega
theorem cand_uniq {x y sep : Nat} {s : List Nat} (hx : x < 1000) (hy : y < 1000) (hsep : ¬ dig sep) (p : sgN x ++ [sep] <+: s) (q : sgN y ++ [sep] <+: s) : x = y := by
  have key : ∀ a b : Nat, a < 1000 → b < 1000 → sgN a ++ [sep] <+: sgN b ++ [sep] → sgN a = sgN b := by
    intro a b ha hb h
    have h0 := h
    rcases List.prefix_concat_iff.mp h with h | h
    · exact (List.append_inj' h rfl).1
    · exact absurd (sgN_dig hb sep (h.subset (by simp))) hsep
  have inj : ∀ a b : Nat, a < 1000 → b < 1000 → sgN a = sgN b → a = b := by
    intro a b ha hb h
    have h1 := (sgN_pre ha hb).mp (by rw [h]; exact List.prefix_refl _)
    have h2 := (sgN_pre hb ha).mp (by rw [h]; exact List.prefix_refl _)
    omega
  rcases List.prefix_or_prefix_of_prefix p q with h | h
  · exact inj _ _ hx hy (key _ _ hx hy h)
  · exact (inj _ _ hy hx (key _ _ hy hx h)).symm
/-- the run of the digits and the stage say the same -/
def nrOut (lo : Nat) : NR → Option Nat × Nat
  | .hit v len => (some (v - lo), len)
  | .miss m => (none, m)
theorem num_stage {lo hi sep : Nat} (hl : lo ≤ hi) (hh : hi < 1000) (hsep : ¬ dig sep) (s : List Nat) : stgGo s (cand lo hi sep) 0 0 = nrOut lo (rdC lo hi sep s) := by
  have full : ∀ (P t : List Nat), s = P ++ t → (∀ c ∈ P, dig c) → (∀ c ∈ cand lo hi sep, lcp s c ≤ P.length) → ∀ c ∈ cand lo hi sep, ¬ c <+: s := by
    intro P t e hP u c hc p
    have h1 := (lcp_full _ _).mpr p
    have h2 := u c hc
    obtain ⟨x, _, _, rfl⟩ := mem_cand.mp hc
    have h3 := (List.prefix_iff_eq_take.mp p)
    have h4 : sep ∈ s.take (sgN x ++ [sep]).length := by rw [← h3]; simp
    rw [e, List.take_append_of_le_length (by omega)] at h4
    exact hsep (hP _ (List.mem_of_mem_take h4))
  have some_x : ∀ (v : Nat) (t : List Nat), v < 1000 → canB v lo hi → s = sgN v ++ t → ∃ c ∈ cand lo hi sep, (sgN v).length ≤ lcp s c := by
    intro v t hv hc e
    obtain ⟨x, h1, h2, p⟩ := (canB_iff hv hh hl).mp hc
    refine ⟨_, mem_cand.mpr ⟨x, h1, h2, rfl⟩, (le_lcp _ _ _).mpr ⟨by rw [e]; simp, by have := p.length_le; simp; omega, ?_⟩⟩
    rw [e, List.take_left, List.take_append_of_le_length p.length_le]
    exact List.prefix_iff_eq_take.mp p
  -- the run, from a state on
  have run : ∀ (t : List Nat) (v j : Nat) (P : List Nat), s = P ++ t → P.length = j → (∀ c ∈ P, dig c) → ((j = 0 ∧ v = 0 ∧ P = []) ∨ (v < 1000 ∧ P = sgN v ∧ canB v lo hi)) →
      stgGo s (cand lo hi sep) 0 0 = nrOut lo (match rdN lo hi t v j with
        | .miss m => .miss m
        | .hit v len => if s[len]? = some sep then .hit v (len + 1) else .miss len) := by
    -- at the end of the digits
    have fin : ∀ (t : List Nat) (v j : Nat) (P : List Nat), s = P ++ t → P.length = j → (∀ c ∈ P, dig c) → ((j = 0 ∧ v = 0 ∧ P = []) ∨ (v < 1000 ∧ P = sgN v ∧ canB v lo hi)) → (∀ c t', t = c :: t' → ¬ dig c) →
        stgGo s (cand lo hi sep) 0 0 = nrOut lo (match nFin lo v j with
          | .miss m => .miss m
          | .hit v len => if s[len]? = some sep then .hit v (len + 1) else .miss len) := by
      intro t v j P e hj hP hv hd
      have up : (∀ x, lo ≤ x → x ≤ hi → P = sgN x → s[j]? ≠ some sep) → ∀ c ∈ cand lo hi sep, lcp s c ≤ P.length := by
        intro nx c hc
        obtain ⟨x, h1, h2, rfl⟩ := mem_cand.mp hc
        by_cases hm : P.length < lcp s (sgN x ++ [sep])
        · obtain ⟨c, t', rfl, h | h⟩ := pre_cases (by omega) hsep hP e _ (Nat.le_refl _) hm
          · exact absurd h.2 (hd _ _ rfl)
          · refine absurd ?_ (nx x h1 h2 h.1)
            rw [e, ← hj, h.2]
            simp
        · omega
      unfold nFin
      by_cases h0 : j = 0
      · rw [if_pos (.inl h0)]
        have hP0 : P = [] := List.length_eq_zero_iff.mp (by omega)
        have hu := up fun x _ _ q => by
          have := sgN_pos x
          rw [← q, hP0] at this
          simp at this
        refine stg_miss 0 (full P t e hP hu) (fun c hc => by have := hu c hc; omega) ⟨sgN lo ++ [sep], mem_cand.mpr ⟨lo, Nat.le_refl _, hl, rfl⟩, ?_⟩
        have := hu _ (mem_cand.mpr ⟨lo, Nat.le_refl _, hl, rfl⟩)
        omega
      · rcases hv with hv | ⟨hv, hPv, hc⟩
        · exact absurd hv.1 h0
        · obtain ⟨c, hcm, hcl⟩ := some_x v t hv hc (hPv ▸ e)
          have hvh := canB_le hc
          by_cases hlo : v < lo
          · rw [if_pos (.inr hlo)]
            have hu := up fun x h1 h2 q => by
              have h3 := (sgN_pre hv (x := x) (by omega)).mp (by rw [← hPv, q]; exact List.prefix_refl _)
              have h4 := (sgN_pre (v := x) (x := v) (by omega) (by omega)).mp (by rw [← hPv, q]; exact List.prefix_refl _)
              omega
            refine stg_miss 0 (full P t e hP hu) (fun c hc => by have := hu c hc; omega) ⟨c, hcm, ?_⟩
            have := hu c hcm
            rw [← hPv] at hcl
            omega
          · rw [if_neg (by omega)]
            dsimp only
            by_cases hs : s[j]? = some sep
            · rw [if_pos hs]
              have pv : sgN v ++ [sep] <+: s := by
                cases t with
                | nil => rw [e, ← hj] at hs; simp at hs
                | cons c t' =>
                  rw [e, ← hj] at hs
                  simp at hs
                  subst hs
                  rw [e, hPv]
                  exact ⟨t', by simp⟩
              rw [stg_hit 0 0 (cand_get (sep := sep) (by omega) hvh) pv fun i c' hi' hc' => ?_]
              · unfold nrOut
                simp [← hj, hPv]
              · intro q
                obtain ⟨x, h1, h2, rfl⟩ := mem_cand.mp (List.mem_of_getElem? hc')
                have hxe := cand_uniq (by omega) (by omega) hsep pv q
                subst hxe
                unfold cand at hc'
                rw [List.getElem?_map, List.getElem?_range' (by omega)] at hc'
                simp at hc'
                have h3 := (sgN_pre (v := lo + i) (x := v) (by omega) (by omega)).mp (by rw [hc']; exact List.prefix_refl _)
                have h4 := (sgN_pre (v := v) (x := lo + i) (by omega) (by omega)).mp (by rw [hc']; exact List.prefix_refl _)
                omega
            · rw [if_neg hs]
              have hu := up fun x h1 h2 q => hs
              refine stg_miss 0 (full P t e hP hu) (fun c hc => by have := hu c hc; omega) ⟨c, hcm, ?_⟩
              have := hu c hcm
              rw [← hPv] at hcl
              omega
    intro t
    induction t with
    | nil => exact fun v j P e hj hP hv => fin [] v j P e hj hP hv (by simp)
    | cons c t ih =>
      intro v j P e hj hP hv
      unfold rdN
      by_cases hd : dig c
      · rw [if_pos hd]
        have hdd : 48 ≤ c ∧ c < 58 := hd
        by_cases hbad : (0 < j ∧ v = 0) ∨ ¬ canB (10 * v + (c - 48)) lo hi
        · rw [if_pos hbad]
          dsimp only
          have hu : ∀ c ∈ cand lo hi sep, lcp s c ≤ P.length := by
            intro c1 hc1
            obtain ⟨x, h1, h2, rfl⟩ := mem_cand.mp hc1
            by_cases hm : P.length < lcp s (sgN x ++ [sep])
            · obtain ⟨c2, t', e2, h⟩ := pre_cases (by omega) hsep hP e _ (Nat.le_refl _) hm
              obtain ⟨rfl, rfl⟩ : c = c2 ∧ t = t' := by simpa using e2
              rcases h with h | h
              · rcases hv with ⟨hj0, hv0, hP0⟩ | ⟨hv, hPv, hc⟩
                · rcases hbad with hb | hb
                  · omega
                  · refine absurd ((canB_iff (by omega) hh hl).mpr ⟨x, h1, h2, ?_⟩) hb
                    have h5 : sgN (10 * v + (c - 48)) = [c] := by
                      unfold sgN
                      rw [if_pos (by omega)]
                      simp; omega
                    rw [h5]
                    simpa [hP0] using h.1
                · by_cases hv0 : v = 0
                  · have h5 : P = [48] := by rw [hPv, hv0]; rfl
                    rw [h5] at h
                    exact absurd h.1 (no_zero (by omega))
                  · rcases hbad with hb | hb
                    · omega
                    · have hvx : 10 * v + (c - 48) < 1000 := by
                        have h6 : v < 100 := by
                          have h7 := h.1.length_le
                          rw [hPv] at h7
                          unfold sgN at h7
                          simp at h7
                          split at h7
                          · omega
                          · split at h7
                            · omega
                            · split at h7
                              · simp at h7
                              · split at h7 <;> simp at h7
                        omega
                      refine absurd ((canB_iff hvx hh hl).mpr ⟨x, h1, h2, ?_⟩) hb
                      rw [sgN_snoc (by omega) (by omega) hvx, ← hPv, show 48 + (c - 48) = c by omega]
                      exact h.1
              · exact absurd (h.2 ▸ hd) hsep
            · omega
          refine stg_miss 0 (full P _ e hP hu) (fun c hc => by have := hu c hc; omega) ?_
          rcases hv with ⟨hj0, hv0, hP0⟩ | ⟨hv, hPv, hc⟩
          · refine ⟨sgN lo ++ [sep], mem_cand.mpr ⟨lo, Nat.le_refl _, hl, rfl⟩, ?_⟩
            have := hu _ (mem_cand.mpr ⟨lo, Nat.le_refl _, hl, rfl⟩)
            omega
          · obtain ⟨c1, hcm, hcl⟩ := some_x v _ hv hc (hPv ▸ e)
            refine ⟨c1, hcm, ?_⟩
            have := hu c1 hcm
            rw [← hPv] at hcl
            omega
        · rw [if_neg hbad]
          have hb1 : canB (10 * v + (c - 48)) lo hi := Classical.not_not.mp fun z => hbad (.inr z)
          have hb2 : ¬ (0 < j ∧ v = 0) := fun z => hbad (.inl z)
          have hle := canB_le hb1
          refine ih (10 * v + (c - 48)) (j + 1) (P ++ [c]) (by rw [e]; simp) (by simp [hj]) ?_ (.inr ⟨by omega, ?_, hb1⟩)
          · intro c1 hc1
            rcases List.mem_append.mp hc1 with h | h
            · exact hP c1 h
            · simp at h; exact h ▸ hd
          · rcases hv with ⟨hj0, hv0, hP0⟩ | ⟨hv, hPv, hc⟩
            · rw [hP0, hv0]
              unfold sgN
              rw [if_pos (by omega)]
              simp; omega
            · have hv0 : 0 < v := by
                have := sgN_pos v
                rw [← hPv] at this
                omega
              rw [sgN_snoc hv0 (by omega) (by omega), ← hPv, show 48 + (c - 48) = c by omega]
      · rw [if_neg hd]
        exact fin _ v j P e hj hP hv fun c' t' q => by
          obtain ⟨rfl, _⟩ : c = c' ∧ t = t' := by simpa using q
          exact hd
  unfold rdC
  exact run s 0 0 [] rfl rfl (by simp) (.inl ⟨rfl, rfl, rfl⟩)
/-! ### a line -/
def ended : List (List Nat) := [[97, 115, 107, 32], [97, 114, 114, 105, 118, 101, 32], [100, 111, 32], [97, 103, 97, 105, 110, 32], [104, 101, 97, 114, 32], [108, 97, 116, 101, 32], [99, 114, 97, 115, 104, 10], [103, 105, 118, 101, 32, 117, 112, 10]]
structure Ev where
  t : Nat
  k : Nat
  n : Option Nat
def Ev.valid (e : Ev) : Prop := e.t ≤ 400 ∧ ((e.k ≤ 5 ∧ ∃ n, e.n = some n ∧ n ≤ 39) ∨ ((e.k = 6 ∨ e.k = 7) ∧ e.n = none))
def endK (k : Nat) : List Nat := ended.getD k []
def wd (k : Nat) : List Nat := (endK k).dropLast
def Ev.tail (e : Ev) : List Nat := match e.n with
  | none => []
  | some n => sgN n ++ [10]
def Ev.line (e : Ev) : List Nat := (sgN e.t ++ [32]) ++ (endK e.k ++ e.tail)
inductive LR where
  | ok (e : Ev) (len : Nat)
  | fail (m : Nat)
def rdLine (low : Nat) (s : List Nat) : LR := match stgGo s (cand low 400 32) 0 0 with
  | (none, m) => .fail m
  | (some i, n1) => match stgGo (s.drop n1) ended 0 0 with
    | (none, m) => .fail (n1 + m)
    | (some k, n2) => if 5 < k then .ok ⟨low + i, k, none⟩ (n1 + n2) else match stgGo (s.drop (n1 + n2)) (cand 0 39 10) 0 0 with
      | (none, m) => .fail (n1 + n2 + m)
      | (some n, n3) => .ok ⟨low + i, k, some n⟩ (n1 + n2 + n3)
theorem stg_some {s : List Nat} : ∀ {C : List (List Nat)} {k0 b i l : Nat}, stgGo s C k0 b = (some i, l) → ∃ j c, i = k0 + j ∧ C[j]? = some c ∧ c <+: s ∧ l = c.length
  | [], k0, b, i, l, h => by cases h
  | d :: C, k0, b, i, l, h => by
    unfold stgGo at h
    split at h
    · rename_i hf
      cases h
      exact ⟨0, d, rfl, rfl, (lcp_full _ _).mp hf, rfl⟩
    · obtain ⟨j, c, e1, e2, e3, e4⟩ := stg_some h
      exact ⟨j + 1, c, by omega, by simpa using e2, e3, e4⟩
theorem stg_none {s : List Nat} : ∀ {C : List (List Nat)} {k0 b m : Nat}, stgGo s C k0 b = (none, m) → (∀ c ∈ C, ¬ c <+: s) ∧ (m = b ∨ ∃ c ∈ C, lcp s c = m)
  | [], k0, b, m, h => by cases h; exact ⟨by simp, .inl rfl⟩
  | d :: C, k0, b, m, h => by
    unfold stgGo at h
    split at h
    · cases h
    · rename_i hf
      obtain ⟨n, u⟩ := stg_none h
      refine ⟨fun c hc => ?_, ?_⟩
      · rcases List.mem_cons.mp hc with rfl | hc
        · exact fun p => hf ((lcp_full _ _).mpr p)
        · exact n c hc
      · rcases u with u | ⟨c, hc, u⟩
        · by_cases hb : b ≤ lcp s d
          · exact .inr ⟨d, by simp, by omega⟩
          · exact .inl (by omega)
        · exact .inr ⟨c, by simp [hc], u⟩
/-- a miss ends in a part of the text that has no end of a line -/
theorem stg_nl {s : List Nat} {C : List (List Nat)} {m : Nat} (hC : ∀ c ∈ C, 10 ∉ c.dropLast) (h : stgGo s C 0 0 = (none, m)) : m ≤ s.length ∧ 10 ∉ s.take m := by
  obtain ⟨n, u⟩ := stg_none h
  rcases u with u | ⟨c, hc, u⟩
  · subst u
    simp
  · have h1 := (le_lcp m s c).mp (by omega)
    have h2 : lcp s c ≠ c.length := fun z => n c hc ((lcp_full _ _).mp z)
    have h3 := lcp_le_right s c
    refine ⟨h1.1, fun z => hC c hc ?_⟩
    rw [h1.2.2] at z
    rw [List.dropLast_eq_take]
    exact List.Sublist.subset (List.take_sublist_take_left (by omega)) z
theorem ended_nl : ∀ c ∈ ended, 10 ∉ c.dropLast := by decide
theorem cand_nl {lo hi sep : Nat} (h : hi < 1000) : ∀ c ∈ cand lo hi sep, 10 ∉ c.dropLast := by
  intro c hc
  obtain ⟨x, _, _, rfl⟩ := mem_cand.mp hc
  rw [List.dropLast_concat]
  intro z
  have := sgN_dig (by omega) _ z
  unfold dig at this
  omega
theorem cand_at {lo hi sep j : Nat} {c : List Nat} (h : (cand lo hi sep)[j]? = some c) : lo + j ≤ hi ∧ c = sgN (lo + j) ++ [sep] := by
  unfold cand at h
  rw [List.getElem?_map] at h
  by_cases hj : j < hi + 1 - lo
  · rw [List.getElem?_range' hj] at h
    simp at h
    exact ⟨by omega, h.symm⟩
  · rw [List.getElem?_eq_none (by simp; omega)] at h
    simp at h
theorem ended_at {j : Nat} {c : List Nat} (h : ended[j]? = some c) : j < 8 ∧ c = endK j := by
  obtain ⟨hj, e⟩ := List.getElem?_eq_some_iff.mp h
  refine ⟨hj, ?_⟩
  unfold endK
  rw [List.getD_eq_getElem?_getD, h]
  rfl
theorem pre_drop {a b s : List Nat} (p : a <+: s) (q : b <+: s.drop a.length) : a ++ b <+: s := by
  obtain ⟨r, rfl⟩ := p
  rw [List.drop_left] at q
  exact List.prefix_append_right_inj a |>.mpr q
theorem rdLine_ok {low : Nat} {s : List Nat} {e : Ev} {len : Nat} (h : rdLine low s = .ok e len) : e.valid ∧ low ≤ e.t ∧ e.line <+: s ∧ len = e.line.length := by
  unfold rdLine at h
  split at h
  · cases h
  · rename_i i n1 h1
    obtain ⟨j, c, e1, e2, e3, e4⟩ := stg_some h1
    rw [Nat.zero_add] at e1
    subst e1
    obtain ⟨b1, b2⟩ := cand_at e2
    split at h
    · cases h
    · rename_i k n2 h2
      obtain ⟨j2, c2, f1, f2, f3, f4⟩ := stg_some h2
      rw [Nat.zero_add] at f1
      subst f1
      obtain ⟨g1, g2⟩ := ended_at f2
      have P2 : c ++ c2 <+: s := pre_drop e3 (e4 ▸ f3)
      split at h
      · rename_i hk
        cases h
        refine ⟨⟨b1, .inr ⟨by dsimp only; omega, rfl⟩⟩, Nat.le_add_right _ _, ?_, ?_⟩
        · unfold Ev.line Ev.tail
          dsimp only
          rw [List.append_nil, ← b2, ← g2]
          exact P2
        · unfold Ev.line Ev.tail
          dsimp only
          rw [List.append_nil, ← b2, ← g2, List.length_append, e4, f4]
      · rename_i hk
        split at h
        · cases h
        · rename_i n n3 h3
          obtain ⟨j3, c3, k1, k2, k3, k4⟩ := stg_some h3
          rw [Nat.zero_add] at k1
          subst k1
          obtain ⟨m1, m2⟩ := cand_at k2
          rw [Nat.zero_add] at m1 m2
          have P3 : (c ++ c2) ++ c3 <+: s := pre_drop P2 (by rw [List.length_append, ← e4, ← f4]; exact k3)
          cases h
          refine ⟨⟨b1, .inl ⟨by dsimp only; omega, _, rfl, m1⟩⟩, Nat.le_add_right _ _, ?_, ?_⟩
          · unfold Ev.line Ev.tail
            dsimp only
            rw [← b2, ← g2, ← m2, ← List.append_assoc]
            exact P3
          · unfold Ev.line Ev.tail
            dsimp only
            rw [← b2, ← g2, ← m2, List.length_append, List.length_append, e4, f4, k4]
            omega
theorem take_drop_nl {s : List Nat} {a m : Nat} (h1 : 10 ∉ s.take a) (h2 : 10 ∉ (s.drop a).take m) : 10 ∉ s.take (a + m) := by
  rw [List.take_add]
  simp only [List.mem_append, not_or]
  exact ⟨h1, h2⟩
theorem rdLine_fail {low : Nat} {s : List Nat} {m : Nat} (h : rdLine low s = .fail m) : m ≤ s.length ∧ 10 ∉ s.take m := by
  have nd : ∀ x, x < 1000 → 10 ∉ sgN x := fun x hx z => by
    have := sgN_dig hx _ z
    unfold dig at this
    omega
  unfold rdLine at h
  split at h
  · rename_i m' h1
    cases h
    exact stg_nl (cand_nl (by omega)) h1
  · rename_i i n1 h1
    obtain ⟨j, c, e1, e2, e3, e4⟩ := stg_some h1
    obtain ⟨b1, b2⟩ := cand_at e2
    have t1 : 10 ∉ s.take n1 := by
      rw [e4, ← List.prefix_iff_eq_take.mp e3, b2]
      simp [nd _ (show low + j < 1000 by omega)]
    have l1 := e3.length_le
    split at h
    · rename_i m' h2
      cases h
      obtain ⟨p, q⟩ := stg_nl ended_nl h2
      rw [List.length_drop] at p
      exact ⟨by omega, take_drop_nl t1 q⟩
    · rename_i k n2 h2
      obtain ⟨j2, c2, f1, f2, f3, f4⟩ := stg_some h2
      rw [Nat.zero_add] at f1
      subst f1
      obtain ⟨g1, g2⟩ := ended_at f2
      have l2 := f3.length_le
      rw [List.length_drop] at l2
      split at h
      · cases h
      · rename_i hk
        have t2 : 10 ∉ s.take (n1 + n2) := by
          refine take_drop_nl t1 ?_
          rw [f4, ← List.prefix_iff_eq_take.mp f3, g2]
          have : ∀ k < 6, 10 ∉ endK k := by decide
          exact this _ (by omega)
        split at h
        · rename_i m' h3
          cases h
          obtain ⟨p, q⟩ := stg_nl (cand_nl (by omega)) h3
          rw [List.length_drop] at p
          exact ⟨by omega, take_drop_nl t2 q⟩
        · cases h
theorem ended_uniq : ∀ i < 8, ∀ j < 8, i ≠ j → ¬ endK i <+: endK j := by decide
theorem stg_ended {k : Nat} {r : List Nat} (hk : k < 8) : stgGo (endK k ++ r) ended 0 0 = (some k, (endK k).length) := by
  have e : ended[k]? = some (endK k) := by
    unfold endK
    rw [List.getD_eq_getElem?_getD, List.getElem?_eq_getElem (show k < ended.length from hk)]
    rfl
  have := stg_hit (s := endK k ++ r) 0 0 e (List.prefix_append _ _) fun j c' hj hc p => by
    obtain ⟨h1, h2⟩ := ended_at hc
    subst h2
    rcases List.prefix_or_prefix_of_prefix p (List.prefix_append (endK k) r) with q | q
    · exact ended_uniq j h1 k hk (by omega) q
    · exact ended_uniq k hk j h1 (by omega) q
  rw [this, Nat.zero_add]
theorem stg_cand {lo hi sep x : Nat} {r : List Nat} (h1 : lo ≤ x) (h2 : x ≤ hi) (hh : hi < 1000) (hsep : ¬ dig sep) : stgGo ((sgN x ++ [sep]) ++ r) (cand lo hi sep) 0 0 = (some (x - lo), (sgN x ++ [sep]).length) := by
  have := stg_hit (s := (sgN x ++ [sep]) ++ r) 0 0 (cand_get (sep := sep) h1 h2) (List.prefix_append _ _) fun j c' hj hc p => by
    obtain ⟨h3, h4⟩ := cand_at hc
    subst h4
    have := cand_uniq (by omega) (by omega) hsep p (List.prefix_append _ _)
    omega
  rw [this, Nat.zero_add]
theorem rdLine_line {low : Nat} {e : Ev} {r : List Nat} (v : e.valid) (hl : low ≤ e.t) : rdLine low (e.line ++ r) = .ok e e.line.length := by
  obtain ⟨t, k, n⟩ := e
  have hd : (sgN t ++ [32]).length = (sgN t).length + 1 := by simp
  unfold Ev.line
  unfold rdLine
  rw [List.append_assoc, stg_cand hl v.1 (by omega) (by decide)]
  dsimp only
  rw [List.drop_left, List.append_assoc, stg_ended (by rcases v.2 with h | h <;> (have := h.1; dsimp only at this; omega))]
  dsimp only
  rw [← List.append_assoc, List.drop_append, ← List.length_append, List.drop_length, List.nil_append, Nat.sub_self, List.drop_zero]
  dsimp only at hl
  rcases v.2 with ⟨hk, m, hn, hm⟩ | ⟨hk, hn⟩
  · dsimp only at hk hn
    subst hn
    rw [if_neg (by omega)]
    unfold Ev.tail
    dsimp only
    rw [stg_cand (Nat.zero_le _) hm (by omega) (by decide)]
    dsimp only
    rw [show low + (t - low) = t by omega, Nat.sub_zero, ← List.length_append, List.append_assoc]
  · dsimp only at hk hn
    subst hn
    rw [if_pos (by omega)]
    unfold Ev.tail
    dsimp only
    rw [show low + (t - low) = t by omega, List.append_nil]
theorem rdLine_low {low : Nat} {e : Ev} {r : List Nat} (v : e.valid) (hl : e.t < low) : ∃ m, rdLine low (e.line ++ r) = .fail m := by
  cases h : rdLine low (e.line ++ r) with
  | fail m => exact ⟨m, rfl⟩
  | ok e' len =>
    obtain ⟨v', h2, h3, h4⟩ := rdLine_ok h
    have p1 : sgN e'.t ++ [32] <+: e.line ++ r := (List.prefix_append _ _).trans h3
    have p2 : sgN e.t ++ [32] <+: e.line ++ r := (List.prefix_append _ _).trans (List.prefix_append _ _)
    have a1 := v.1
    have a2 := v'.1
    have := cand_uniq (by omega) (by omega) (by decide) p1 p2
    omega
/-- a line ends at its only end of a line -/
theorem line_nl {e : Ev} (v : e.valid) : ∃ b, e.line = b ++ [10] ∧ 10 ∉ b := by
  have nd : ∀ x, x < 1000 → 10 ∉ sgN x := fun x hx z => by
    have := sgN_dig hx _ z
    unfold dig at this
    omega
  obtain ⟨t, k, n⟩ := e
  have ht := v.1
  dsimp only at ht
  rcases v.2 with ⟨hk, m, hn, hm⟩ | ⟨hk, hn⟩
  · dsimp only at hk hn
    subst hn
    have a : ∀ k < 6, 10 ∉ endK k := by decide
    refine ⟨(sgN t ++ [32]) ++ (endK k ++ sgN m), by unfold Ev.line Ev.tail; simp, ?_⟩
    simp [nd t (by omega), nd m (by omega), a k (by omega)]
  · dsimp only at hk hn
    subst hn
    have a : ∀ k < 8, 5 < k → endK k = wd k ++ [10] ∧ 10 ∉ wd k := by decide
    obtain ⟨a1, a2⟩ := a k (by omega) (by omega)
    refine ⟨(sgN t ++ [32]) ++ wd k, by unfold Ev.line Ev.tail; dsimp only; rw [a1]; simp, ?_⟩
    simp [nd t (by omega), a2]
theorem line_count {e : Ev} (v : e.valid) : e.line.count 10 = 1 := by
  obtain ⟨b, e1, e2⟩ := line_nl v
  rw [e1, List.count_append, List.count_eq_zero.mpr e2]
  rfl
theorem line_pos {e : Ev} (v : e.valid) : 0 < e.line.length := by
  obtain ⟨b, e1, e2⟩ := line_nl v
  rw [e1]
  simp
theorem line_len {e : Ev} (v : e.valid) : e.line.length ≤ 20 := by
  have hs : ∀ x, (sgN x).length ≤ 3 := fun x => by
    unfold sgN
    split
    · simp
    · split <;> simp
  have he : ∀ k, (endK k).length ≤ 8 := by
    intro k
    by_cases h : k < 8
    · have : ∀ k < 8, (endK k).length ≤ 8 := by decide
      exact this k h
    · unfold endK
      rw [List.getD_eq_getElem?_getD, List.getElem?_eq_none (by show 8 ≤ k; omega)]
      simp
  have h1 := hs e.t
  have h2 := he e.k
  unfold Ev.line Ev.tail
  simp only [List.length_append, List.length_singleton]
  split
  · simp; omega
  · rename_i n _
    have h3 := hs n
    simp; omega

/-! ### a whole text -/
inductive Reads : Nat → List Nat → List Ev → Option Nat → Prop where
  | done (low : Nat) : Reads low [] [] none
  | bad {low : Nat} {s : List Nat} {m : Nat} : s ≠ [] → rdLine low s = .fail m → Reads low s [] (some m)
  | step {low : Nat} {s : List Nat} {e : Ev} {len : Nat} {rows : List Ev} {o : Option Nat} : s ≠ [] → rdLine low s = .ok e len → Reads e.t (s.drop len) rows o → Reads low s (e :: rows) o
theorem reads_ex : ∀ (n low : Nat) (s : List Nat), s.length ≤ n → ∃ rows o, Reads low s rows o
  | 0, low, s, h => by
    obtain rfl := List.length_eq_zero_iff.mp (Nat.le_zero.mp h)
    exact ⟨_, _, .done low⟩
  | n + 1, low, s, h => by
    by_cases hs : s = []
    · subst hs
      exact ⟨_, _, .done low⟩
    · cases e : rdLine low s with
      | fail m => exact ⟨_, _, .bad hs e⟩
      | ok ev len =>
        obtain ⟨v, _, _, hl⟩ := rdLine_ok e
        have := line_pos v
        obtain ⟨rows, o, r⟩ := reads_ex n ev.t (s.drop len) (by rw [List.length_drop]; omega)
        exact ⟨_, _, .step hs e r⟩
def lns (es : List Ev) : List Nat := (es.map Ev.line).flatten
/-- the ticks do not fall, and stand from low on -/
def Asc : Nat → List Ev → Prop
  | _, [] => True
  | low, e :: es => low ≤ e.t ∧ e.valid ∧ Asc e.t es
def lastT (low : Nat) (es : List Ev) : Nat := (es.getLast?.map Ev.t).getD low
theorem lns_cons (e : Ev) (es : List Ev) : lns (e :: es) = e.line ++ lns es := rfl
theorem lns_append (a b : List Ev) : lns (a ++ b) = lns a ++ lns b := by unfold lns; simp
theorem reads_pre : ∀ {es : List Ev} {low : Nat} {r : List Nat} {rows : List Ev} {o : Option Nat}, Asc low es → Reads low (lns es ++ r) rows o → ∃ rows', rows = es ++ rows' ∧ Reads (lastT low es) r rows' o
  | [], low, r, rows, o, _, h => ⟨rows, rfl, h⟩
  | e :: es, low, r, rows, o, a, h => by
    obtain ⟨a1, a2, a3⟩ := a
    rw [lns_cons, List.append_assoc] at h
    have hr := rdLine_line (r := lns es ++ r) a2 a1
    have ne : e.line ++ (lns es ++ r) ≠ [] := by
      have := line_pos a2
      intro z
      rw [List.append_eq_nil_iff] at z
      rw [z.1] at this
      simp at this
    generalize hs : e.line ++ (lns es ++ r) = s at h hr ne
    cases h with
    | done => exact absurd rfl ne
    | bad _ h2 => rw [hr] at h2; cases h2
    | step _ h2 h3 =>
      rw [hr] at h2
      cases h2
      rw [← hs, List.drop_left] at h3
      obtain ⟨rows', e1, e2⟩ := reads_pre a3 h3
      refine ⟨rows', by rw [e1]; rfl, ?_⟩
      have : lastT low (e :: es) = lastT e.t es := by
        unfold lastT
        cases es with
        | nil => rfl
        | cons f fs => simp [List.getLast?_cons]
      rw [this]
      exact e2
theorem reads_text : ∀ {es : List Ev} {low : Nat} {rows : List Ev} {o : Option Nat}, Asc low es → Reads low (lns es) rows o → rows = es ∧ o = none := by
  intro es low rows o a h
  obtain ⟨rows', e1, e2⟩ := reads_pre (r := []) a (by rw [List.append_nil]; exact h)
  cases e2 with
  | done => exact ⟨by rw [e1, List.append_nil], rfl⟩
  | bad h1 _ => exact absurd rfl h1
  | step h1 _ _ => exact absurd rfl h1
theorem count_lns : ∀ {es : List Ev} {low : Nat}, Asc low es → (lns es).count 10 = es.length
  | [], _, _ => rfl
  | e :: es, low, a => by
    rw [lns_cons, List.count_append, line_count a.2.1, count_lns a.2.2, List.length_cons]
    omega
theorem Asc.weak {low low' : Nat} {es : List Ev} (a : Asc low es) (h : low' ≤ low) : Asc low' es := by
  cases es with
  | nil => trivial
  | cons e es => exact ⟨Nat.le_trans h a.1, a.2⟩

/-- what stands after n turns -/
inductive Adv : Nat → Nat → List Nat → Nat → List Nat → Prop where
  | zero (low : Nat) (s : List Nat) : Adv 0 low s low s
  | nil {n low low' : Nat} {s' : List Nat} : Adv n low [] low' s' → Adv (n + 1) low [] low' s'
  | step {n low low' len : Nat} {s s' : List Nat} {e : Ev} : s ≠ [] → rdLine low s = .ok e len → Adv n e.t (s.drop len) low' s' → Adv (n + 1) low s low' s'
/-- a state that stands before lines of the log as it was -/
def OKs (E : List Ev) (low : Nat) (s : List Nat) : Prop := ∃ j, s = lns (E.drop j) ∧ Asc low (E.drop j)
/-- a state that comes there in at most c lines -/
def Ali (E : List Ev) (c : Nat) (s : List Nat) : Prop := ∃ X j, s = X ++ lns (E.drop j) ∧ (X = [] ∨ X.getLast? = some 10 ∨ E.drop j = []) ∧ X.count 10 ≤ c
theorem asc_drop {E : List Ev} : ∀ {j low : Nat}, Asc low E → ∃ low', Asc low' (E.drop j) := by
  induction E with
  | nil => intro j low _; exact ⟨0, by simp [Asc]⟩
  | cons e es ih =>
    intro j low a
    cases j with
    | zero => exact ⟨low, a⟩
    | succ j => exact ih (j := j) a.2.2
theorem ali_step {E : List Ev} {c low len : Nat} {s : List Nat} {e : Ev} (hE : Asc 0 E) (a : Ali E c s) (hs : s ≠ []) (h : rdLine low s = .ok e len) : OKs E e.t (s.drop len) ∨ ∃ c', c = c' + 1 ∧ Ali E c' (s.drop len) := by
  obtain ⟨X, j, e1, e2, e3⟩ := a
  obtain ⟨v, hlow, p, hlen⟩ := rdLine_ok h
  by_cases hX : X = []
  · subst hX
    rw [List.nil_append] at e1
    left
    obtain ⟨low', ha⟩ := asc_drop (j := j) hE
    cases hd : E.drop j with
    | nil => rw [hd] at e1; exact absurd e1 hs
    | cons f fs =>
      rw [hd] at e1 ha
      have hf := ha.2.1
      by_cases hl : low ≤ f.t
      · rw [e1, lns_cons, rdLine_line hf hl] at h
        cases h
        have hj : E.drop (j + 1) = fs := by rw [← List.drop_drop, hd]; rfl
        exact ⟨j + 1, by rw [e1, lns_cons, List.drop_left, hj], by rw [hj]; exact ha.2.2⟩
      · obtain ⟨m, hm⟩ := rdLine_low (r := lns fs) hf (show f.t < low by omega)
        rw [e1, lns_cons, hm] at h
        cases h
  · right
    obtain ⟨b, l1, l2⟩ := line_nl v
    obtain ⟨r, hr⟩ := p
    rw [l1] at hr
    have hlb : len = b.length + 1 := by rw [hlen, l1]; simp
    -- the first end of a line stands in X
    have hin : b.length < X.length := by
      by_cases hc : 10 ∈ X
      · refine Classical.not_not.mp fun hn => ?_
        have : X <+: b := by
          have q : X <+: b ++ ([10] ++ r) := by rw [← List.append_assoc, hr, e1]; exact List.prefix_append _ _
          exact List.prefix_of_prefix_length_le q (List.prefix_append _ _) (by omega)
        exact l2 (this.subset hc)
      · rcases e2 with q | q | q
        · exact absurd q hX
        · exact absurd (List.mem_of_getLast? q) hc
        · rw [q] at e1
          have e1' : s = X := by rw [e1]; exact List.append_nil _
          exact absurd (by rw [← e1', ← hr]; simp) hc
    have hsp : ∃ X', X = (b ++ [10]) ++ X' := by
      have q1 : b ++ [10] <+: s := ⟨r, hr⟩
      have q2 : X <+: s := by rw [e1]; exact List.prefix_append _ _
      obtain ⟨X', hX'⟩ := List.prefix_of_prefix_length_le q1 q2 (by simp; omega)
      exact ⟨X', hX'.symm⟩
    obtain ⟨X', rfl⟩ := hsp
    rw [List.count_append, List.count_append, List.count_eq_zero.mpr l2] at e3
    have h1 : List.count 10 [10] = 1 := rfl
    refine ⟨c - 1, by omega, X', j, ?_, ?_, by omega⟩
    · rw [e1, List.append_assoc, hlb, List.drop_append]
      simp
    · rcases e2 with q | q | q
      · exact absurd q hX
      · by_cases hX' : X' = []
        · exact .inl hX'
        · right; left
          rw [List.getLast?_append] at q
          cases hg : X'.getLast? with
          | none => exact absurd (List.getLast?_eq_none_iff.mp hg) hX'
          | some z => rw [hg] at q; simpa using q
      · exact .inr (.inr q)
theorem ok_step {E : List Ev} {low len : Nat} {s : List Nat} {e : Ev} (a : OKs E low s) (hs : s ≠ []) (h : rdLine low s = .ok e len) : OKs E e.t (s.drop len) := by
  obtain ⟨j, e1, ha⟩ := a
  cases hd : E.drop j with
  | nil => rw [hd] at e1; exact absurd e1 hs
  | cons f fs =>
    rw [hd] at e1 ha
    rw [e1, lns_cons, rdLine_line ha.2.1 ha.1] at h
    cases h
    have hj : E.drop (j + 1) = fs := by rw [← List.drop_drop, hd]; rfl
    exact ⟨j + 1, by rw [e1, lns_cons, List.drop_left, hj], by rw [hj]; exact ha.2.2⟩
theorem ok_nil {E : List Ev} {low : Nat} : OKs E low [] := ⟨E.length, by simp [lns], by simp [Asc]⟩
theorem ok_adv {E : List Ev} : ∀ {n low low' : Nat} {s s' : List Nat}, Adv n low s low' s' → OKs E low s → OKs E low' s' := by
  intro n low low' s s' h
  induction h with
  | zero => exact id
  | nil _ ih => exact fun _ => ih ok_nil
  | step h1 h2 _ ih => exact fun a => ih (ok_step a h1 h2)
theorem ali_adv {E : List Ev} (hE : Asc 0 E) : ∀ {n low low' : Nat} {s s' : List Nat}, Adv n low s low' s' → ∀ c, c < n → Ali E c s → OKs E low' s' := by
  intro n low low' s s' h
  induction h with
  | zero => exact fun c hc _ => absurd hc (Nat.not_lt_zero _)
  | nil h _ => exact fun _ _ _ => ok_adv h ok_nil
  | step h1 h2 h3 ih =>
    intro c hc a
    rcases ali_step hE a h1 h2 with o | ⟨c', rfl, a'⟩
    · exact ok_adv h3 o
    · exact ih c' (by omega) a'
theorem ok_reads {E : List Ev} {low : Nat} {s : List Nat} {rows : List Ev} {o : Option Nat} (a : OKs E low s) (h : Reads low s rows o) : o = none ∧ rows = E.drop (E.length - s.count 10) := by
  obtain ⟨j, rfl, ha⟩ := a
  obtain ⟨e1, e2⟩ := reads_text ha h
  refine ⟨e2, e1.trans ?_⟩
  rw [count_lns ha, List.length_drop]
  by_cases hj : j ≤ E.length
  · rw [show E.length - (E.length - j) = j by omega]
  · rw [List.drop_of_length_le (by omega), List.drop_of_length_le (by omega)]
end Py
set_option Elab.async false
set_option linter.all false
set_option maxRecDepth 100000
set_option maxHeartbeats 4000000
namespace T75
open PySem PySem.Spec PyProof.Rows L2 Py
/-! ### the text -/
def topS (i : Nat) : Stmt := PySem.Challenge.pw_trunkcall_k75_long_log_texts.main.body.getD i (.Pass ⟨0, 0, 0, 0⟩)
abbrev s_BadBook : Stmt := inClass (topS 2) 0
abbrev s_BadLine : Stmt := inClass (topS 3) 0
abbrev s_is_int : Stmt := topS 5
abbrev s_is_int_in : Stmt := topS 6
abbrev s_is_event : Stmt := topS 14
abbrev s_check_log : Stmt := topS 15
abbrev s__write_event : Stmt := topS 16
abbrev s_write_log : Stmt := topS 17
abbrev s__refuse : Stmt := topS 18
abbrev s__can_begin : Stmt := topS 19
abbrev s__read_number : Stmt := topS 20
abbrev s__read_char : Stmt := topS 21
abbrev s__common : Stmt := topS 22
abbrev s__read_word : Stmt := topS 23
abbrev s_read_log : Stmt := topS 24
abbrev s__law_bag : Stmt := topS 26
abbrev s__law_take : Stmt := topS 27
abbrev s__law_same : Stmt := topS 28
abbrev s__law_events : Stmt := topS 29
abbrev s__law_line : Stmt := topS 30
abbrev s__law_sign : Stmt := topS 31
abbrev s__law_changed : Stmt := topS 32
abbrev s__law_stage : Stmt := topS 33
abbrev s__law_read_line : Stmt := topS 34
abbrev s__law_due : Stmt := topS 35
abbrev s__law_told : Stmt := topS 36
abbrev s__law_refused : Stmt := topS 37
abbrev s_law : Stmt := topS 38
/-! ### what it means -/
abbrev N_is_int : List Str := ["value"]
noncomputable def b_is_int : SS :=
  (sRet (eAnd (eCallB pIsi (aCons (eVar 0) (aCons (eC (.ty "int")) aNil))) (eNot (eCallB pIsi (aCons (eVar 0) (aCons (eC (.ty "bool")) aNil))))))
noncomputable def fn_is_int : List D → HH → R D := mkFn 1 [] b_is_int
abbrev N_is_int_in : List Str := ["value", "low", "high"]
noncomputable def b_is_int_in : SS :=
  (sRet (eAnd (eCall fn_is_int (aCons (eVar 0) aNil)) (eChain pLe pLe (eVar 1) (eVar 0) (eVar 2))))
noncomputable def fn_is_int_in : List D → HH → R D := mkFn 3 [] b_is_int_in
abbrev N_is_event : List Str := ["thing", "tick", "word", "number"]
noncomputable def b_is_event : SS :=
  (sSeq (sIf (tOr' (tNot' (tTru (eCallB pIsi (aCons (eVar 0) (aCons (eC (.ty "tuple")) aNil))))) (tBool (eBin pNe (eCallB pLen (aCons (eVar 0) aNil)) (eC (.int 3))))) (sRet (eC (.bl false))) sNil)
  (sSeq (sAsg (eVar 0) (tgTup [(tgName 1), (tgName 2), (tgName 3)]))
  (sSeq (sIf (tOr' (tNot' (tTru (eCall fn_is_int_in (aCons (eVar 1) (aCons (eC (.int 0)) (aCons (eC (.int 400)) aNil)))))) (tNot' (tTru (eCallB pIsi (aCons (eVar 2) (aCons (eC (.ty "str")) aNil)))))) (sRet (eC (.bl false))) sNil)
  (sSeq (sIf (tBool (eBin pIn (eVar 2) (eC (.tup [(.str [99, 114, 97, 115, 104]), (.str [103, 105, 118, 101, 32, 117, 112])])))) (sRet (eCall fn_is_int_in (aCons (eVar 3) (aCons (eUn pNeg (eC (.int 1))) (aCons (eUn pNeg (eC (.int 1))) aNil))))) sNil)
  (sRet (eAnd (eBin pIn (eVar 2) (eC (.tup [(.str [97, 115, 107]), (.str [97, 114, 114, 105, 118, 101]), (.str [100, 111]), (.str [97, 103, 97, 105, 110]), (.str [104, 101, 97, 114]), (.str [108, 97, 116, 101])]))) (eCall fn_is_int_in (aCons (eVar 3) (aCons (eC (.int 0)) (aCons (eC (.int 39)) aNil))))))))))
noncomputable def fn_is_event : List D → HH → R D := mkFn 1 [none, none, none] b_is_event
abbrev N_check_log : List Str := ["log", "before", "at", "event"]
noncomputable def p_check_log_1 : SS :=
  (sSeq (sIf (tOr' (tNot' (tTru (eCall fn_is_event (aCons (eVar 3) aNil)))) (tBool (eBin pLt (eBin pIdx (eVar 3) (eC (.int 0))) (eVar 1)))) (sRaise "BadBook" ["part"] (aCons (eVar 2) aNil)) sNil)
  (sSet 1 (eBin pIdx (eVar 3) (eC (.int 0)))))
noncomputable def b_check_log : SS :=
  (sSeq (sSet 1 (eC (.int 0)))
  (sFor (iEnum' (aCons (eVar 0) aNil)) (tgTup [(tgName 2), (tgName 3)]) p_check_log_1))
noncomputable def fn_check_log : List D → HH → R D := mkFn 1 [none, none, none] b_check_log
abbrev N__write_event : List Str := ["event", "tick", "word", "number"]
noncomputable def b__write_event : SS :=
  (sSeq (sAsg (eVar 0) (tgTup [(tgName 1), (tgName 2), (tgName 3)]))
  (sSeq (sIf (tBool (eBin pIn (eVar 2) (eC (.tup [(.str [99, 114, 97, 115, 104]), (.str [103, 105, 118, 101, 32, 117, 112])])))) (sRet (eBin pAdd (eBin pAdd (eCallB pStr (aCons (eVar 1) aNil)) (eC (.str [32]))) (eVar 2))) sNil)
  (sRet (eBin pAdd (eBin pAdd (eBin pAdd (eBin pAdd (eCallB pStr (aCons (eVar 1) aNil)) (eC (.str [32]))) (eVar 2)) (eC (.str [32]))) (eCallB pStr (aCons (eVar 3) aNil))))))
noncomputable def fn__write_event : List D → HH → R D := mkFn 1 [none, none, none] b__write_event
abbrev N_write_log : List Str := ["log", "event"]
noncomputable def p_write_log_1 : ES :=
  (eBin pAdd (eCall fn__write_event (aCons (eVar 1) aNil)) (eC (.str [10])))
noncomputable def b_write_log : SS :=
  (sSeq (sExpr (eCall fn_check_log (aCons (eVar 0) aNil)))
  (sRet (eMeth "str" pJoin (eC (.str [])) (aCons (eLc (iSeq (eVar 0)) (tgName 1) tYes' p_write_log_1 [1]) aNil))))
noncomputable def fn_write_log : List D → HH → R D := mkFn 1 [none] b_write_log
abbrev N__refuse : List Str := ["text", "at", "before"]
noncomputable def b__refuse : SS :=
  (sSeq (sSet 2 (eSl (eVar 0) oNone (oSome (eVar 1))))
  (sRaise "BadLine" ["line", "column"] (aCons (eBin pAdd (eMeth "str" pCount (eVar 2) (aCons (eC (.str [10])) aNil)) (eC (.int 1))) (aCons (eBin pSub (eVar 1) (eMeth "str" pRfind (eVar 2) (aCons (eC (.str [10])) aNil))) aNil))))
noncomputable def fn__refuse : List D → HH → R D := mkFn 2 [none] b__refuse
abbrev N__can_begin : List Str := ["number", "low", "high", "least", "most"]
noncomputable def p__can_begin_1 : TS' :=
  (tBool (eBin pLe (eVar 3) (eVar 2)))
noncomputable def p__can_begin_2 : SS :=
  (sSeq (sIf (tBool (eBin pGe (eVar 4) (eVar 1))) (sRet (eC (.bl true))) sNil)
  (sSeq (sIf (tBool (eBin pEq (eVar 0) (eC (.int 0)))) (sRet (eC (.bl false))) sNil)
  (sSeq (sSet 3 (eBin pMul (eVar 3) (eC (.int 10))))
  (sSet 4 (eBin pAdd (eBin pMul (eVar 4) (eC (.int 10))) (eC (.int 9)))))))
noncomputable def b__can_begin : SS :=
  (sSeq (sSet 3 (eVar 0))
  (sSeq (sSet 4 (eVar 0))
  (sSeq (sWhile p__can_begin_1 p__can_begin_2)
  (sRet (eC (.bl false))))))
noncomputable def fn__can_begin : List D → HH → R D := mkFn 3 [none, none] b__can_begin
abbrev N__read_number : List Str := ["text", "at", "low", "high", "number", "start", "longer"]
noncomputable def p__read_number_1 : TS' :=
  (tAnd' (tBool (eBin pLt (eVar 1) (eCallB pLen (aCons (eVar 0) aNil)))) (tBool (eBin pIn (eBin pIdx (eVar 0) (eVar 1)) (eC (.str [48, 49, 50, 51, 52, 53, 54, 55, 56, 57])))))
noncomputable def p__read_number_2 : SS :=
  (sSeq (sSet 6 (eBin pAdd (eBin pMul (eVar 4) (eC (.int 10))) (eMeth "str" pSIndex (eC (.str [48, 49, 50, 51, 52, 53, 54, 55, 56, 57])) (aCons (eBin pIdx (eVar 0) (eVar 1)) aNil))))
  (sSeq (sIf (tOr' (tAnd' (tBool (eBin pGt (eVar 1) (eVar 5))) (tBool (eBin pEq (eVar 4) (eC (.int 0))))) (tNot' (tTru (eCall fn__can_begin (aCons (eVar 6) (aCons (eVar 2) (aCons (eVar 3) aNil))))))) (sExpr (eCall fn__refuse (aCons (eVar 0) (aCons (eVar 1) aNil)))) sNil)
  (sSeq (sSet 4 (eVar 6))
  (sAug 1 pIAdd (eC (.int 1))))))
noncomputable def b__read_number : SS :=
  (sSeq (sSet 4 (eC (.int 0)))
  (sSeq (sSet 5 (eVar 1))
  (sSeq (sWhile p__read_number_1 p__read_number_2)
  (sSeq (sIf (tOr' (tBool (eBin pEq (eVar 1) (eVar 5))) (tBool (eBin pLt (eVar 4) (eVar 2)))) (sExpr (eCall fn__refuse (aCons (eVar 0) (aCons (eVar 1) aNil)))) sNil)
  (sRet (eTup (aCons (eVar 4) (aCons (eVar 1) aNil))))))))
noncomputable def fn__read_number : List D → HH → R D := mkFn 4 [none, none, none] b__read_number
abbrev N__read_char : List Str := ["text", "at", "wanted"]
noncomputable def b__read_char : SS :=
  (sSeq (sIf (tBool (eBin pNe (eSl (eVar 0) (oSome (eVar 1)) (oSome (eBin pAdd (eVar 1) (eC (.int 1))))) (eVar 2))) (sExpr (eCall fn__refuse (aCons (eVar 0) (aCons (eVar 1) aNil)))) sNil)
  (sRet (eBin pAdd (eVar 1) (eC (.int 1)))))
noncomputable def fn__read_char : List D → HH → R D := mkFn 3 [] b__read_char
abbrev N__common : List Str := ["text", "at", "ended", "count"]
noncomputable def p__common_1 : TS' :=
  (tAnd' (tBool (eBin pLt (eVar 3) (eCallB pLen (aCons (eVar 2) aNil)))) (tBool (eBin pEq (eSl (eVar 0) (oSome (eBin pAdd (eVar 1) (eVar 3))) (oSome (eBin pAdd (eBin pAdd (eVar 1) (eVar 3)) (eC (.int 1))))) (eBin pIdx (eVar 2) (eVar 3)))))
noncomputable def p__common_2 : SS :=
  (sAug 3 pIAdd (eC (.int 1)))
noncomputable def b__common : SS :=
  (sSeq (sSet 3 (eC (.int 0)))
  (sSeq (sWhile p__common_1 p__common_2)
  (sRet (eVar 3))))
noncomputable def fn__common : List D → HH → R D := mkFn 3 [none] b__common
abbrev N__read_word : List Str := ["text", "at", "furthest", "ended", "count"]
noncomputable def p__read_word_1 : SS :=
  (sSeq (sSet 4 (eCall fn__common (aCons (eVar 0) (aCons (eVar 1) (aCons (eVar 3) aNil)))))
  (sSeq (sIf (tBool (eBin pEq (eVar 4) (eCallB pLen (aCons (eVar 3) aNil)))) (sRet (eTup (aCons (eSl (eVar 3) oNone (oSome (eUn pNeg (eC (.int 1))))) (aCons (eBin pAdd (eVar 1) (eVar 4)) aNil)))) sNil)
  (sSet 2 (eCallB pMax2 (aCons (eVar 2) (aCons (eVar 4) aNil))))))
noncomputable def b__read_word : SS :=
  (sSeq (sSet 2 (eC (.int 0)))
  (sSeq (sFor (iSeq (eC (.tup [(.str [97, 115, 107, 32]), (.str [97, 114, 114, 105, 118, 101, 32]), (.str [100, 111, 32]), (.str [97, 103, 97, 105, 110, 32]), (.str [104, 101, 97, 114, 32]), (.str [108, 97, 116, 101, 32]), (.str [99, 114, 97, 115, 104, 10]), (.str [103, 105, 118, 101, 32, 117, 112, 10])]))) (tgName 3) p__read_word_1)
  (sExpr (eCall fn__refuse (aCons (eVar 0) (aCons (eBin pAdd (eVar 1) (eVar 2)) aNil))))))
noncomputable def fn__read_word : List D → HH → R D := mkFn 2 [none, none, none] b__read_word
abbrev N_read_log : List Str := ["text", "events", "tick", "at", "word", "number"]
noncomputable def p_read_log_1 : TS' :=
  (tBool (eBin pLt (eVar 3) (eCallB pLen (aCons (eVar 0) aNil))))
noncomputable def p_read_log_2 : SS :=
  (sSeq (sAsg (eCall fn__read_number (aCons (eVar 0) (aCons (eVar 3) (aCons (eVar 2) (aCons (eC (.int 400)) aNil))))) (tgTup [(tgName 2), (tgName 3)]))
  (sSeq (sSet 3 (eCall fn__read_char (aCons (eVar 0) (aCons (eVar 3) (aCons (eC (.str [32])) aNil)))))
  (sSeq (sAsg (eCall fn__read_word (aCons (eVar 0) (aCons (eVar 3) aNil))) (tgTup [(tgName 4), (tgName 3)]))
  (sSeq (sSet 5 (eUn pNeg (eC (.int 1))))
  (sSeq (sIf (tBool (eBin pIn (eVar 4) (eC (.tup [(.str [97, 115, 107]), (.str [97, 114, 114, 105, 118, 101]), (.str [100, 111]), (.str [97, 103, 97, 105, 110]), (.str [104, 101, 97, 114]), (.str [108, 97, 116, 101])])))) (sSeq (sAsg (eCall fn__read_number (aCons (eVar 0) (aCons (eVar 3) (aCons (eC (.int 0)) (aCons (eC (.int 39)) aNil))))) (tgTup [(tgName 5), (tgName 3)]))
  (sSet 3 (eCall fn__read_char (aCons (eVar 0) (aCons (eVar 3) (aCons (eC (.str [10])) aNil)))))) sNil)
  (sExpr (eMeth "list" pAppend (eVar 1) (aCons (eTup (aCons (eVar 2) (aCons (eVar 4) (aCons (eVar 5) aNil)))) aNil))))))))
noncomputable def b_read_log : SS :=
  (sSeq (sSet 1 (eLst aNil))
  (sSeq (sSet 2 (eC (.int 0)))
  (sSeq (sSet 3 (eC (.int 0)))
  (sSeq (sWhile p_read_log_1 p_read_log_2)
  (sRet (eCallB pTuple (aCons (eVar 1) aNil)))))))
noncomputable def fn_read_log : List D → HH → R D := mkFn 1 [none, none, none, none, none] b_read_log
abbrev N__law_bag : List Str := ["script", "seed", "cell"]
noncomputable def p__law_bag_1 : SS :=
  (sSet 1 (eBin pMod (eCallB pInt (aCons (eBin pAdd (eBin pMul (eVar 1) (eC (.int 7919))) (eVar 2)) aNil)) (eC (.int 1000033))))
noncomputable def b__law_bag : SS :=
  (sSeq (sSet 1 (eC (.int 11)))
  (sSeq (sFor (iSeq (eSl (eVar 0) oNone (oSome (eC (.int 63))))) (tgName 2) p__law_bag_1)
  (sRet (eLst (aCons (eC (.int 0)) (aCons (eC (.int 0)) (aCons (eC (.int 0)) (aCons (eVar 1) aNil))))))))
noncomputable def fn__law_bag : List D → HH → R D := mkFn 1 [none, none] b__law_bag
abbrev N__law_take : List Str := ["bag", "script", "many", "draw", "mixed"]
noncomputable def b__law_take : SS :=
  (sSeq (sIf (tAnd' (tBool (eBin pEq (eBin pIdx (eVar 0) (eC (.int 0))) (eC (.int 0)))) (tBool (eBin pLt (eBin pIdx (eVar 0) (eC (.int 1))) (eCallB pMin2 (aCons (eC (.int 63)) (aCons (eCallB pLen (aCons (eVar 1) aNil)) aNil)))))) (sSeq (sSetIdx (eVar 0) (eC (.int 0)) (eCallB pAbs (aCons (eBin pIdx (eVar 1) (eBin pIdx (eVar 0) (eC (.int 1)))) aNil)))
  (sSeq (sSetIdx (eVar 0) (eC (.int 1)) (eBin pAdd (eBin pIdx (eVar 0) (eC (.int 1))) (eC (.int 1))))
  (sIf (tBool (eBin pEq (eBin pIdx (eVar 0) (eC (.int 0))) (eC (.int 0)))) (sRet (eC (.int 0))) sNil))) sNil)
  (sSeq (sIf (tBool (eBin pGt (eBin pIdx (eVar 0) (eC (.int 0))) (eC (.int 0)))) (sSeq (sSet 3 (eBin pMod (eCallB pInt (aCons (eBin pIdx (eVar 0) (eC (.int 0))) aNil)) (eVar 2)))
  (sSeq (sSetIdx (eVar 0) (eC (.int 0)) (eBin pDiv (eBin pIdx (eVar 0) (eC (.int 0))) (eVar 2)))
  (sRet (eVar 3)))) sNil)
  (sSeq (sSetIdx (eVar 0) (eC (.int 2)) (eBin pAdd (eBin pIdx (eVar 0) (eC (.int 2))) (eC (.int 1))))
  (sSeq (sSet 4 (eBin pMod (eCallB pInt (aCons (eBin pAdd (eBin pMul (eBin pIdx (eVar 0) (eC (.int 3))) (eC (.int 69621))) (eBin pMul (eBin pIdx (eVar 0) (eC (.int 2))) (eC (.int 48271)))) aNil)) (eC (.int 2147483629))))
  (sSeq (sSet 4 (eBin pMod (eCallB pInt (aCons (eBin pAdd (eBin pMul (eVar 4) (eVar 4)) (eBin pMul (eBin pIdx (eVar 0) (eC (.int 2))) (eC (.int 30011)))) aNil)) (eC (.int 998244353))))
  (sRet (eBin pMod (eCallB pInt (aCons (eBin pDiv (eVar 4) (eC (.int 7))) aNil)) (eVar 2))))))))
noncomputable def fn__law_take : List D → HH → R D := mkFn 3 [none, none] b__law_take
abbrev N__law_same : List Str := ["told", "due", "at"]
noncomputable def p__law_same_1 (rec : List D → HH → R D) : SS :=
  (sIf (tNot' (tTru (eCall rec (aCons (eBin pIdx (eVar 0) (eVar 2)) (aCons (eBin pIdx (eVar 1) (eVar 2)) aNil))))) (sRet (eC (.bl false))) sNil)
noncomputable def b__law_same (rec : List D → HH → R D) : SS :=
  (sSeq (sIf (tTru (eCallB pIsi (aCons (eVar 1) (aCons (eC (.ty "tuple")) aNil)))) (sSeq (sIf (tOr' (tNot' (tTru (eCallB pIsi (aCons (eVar 0) (aCons (eC (.ty "tuple")) aNil))))) (tBool (eBin pNe (eCallB pLen (aCons (eVar 0) aNil)) (eCallB pLen (aCons (eVar 1) aNil))))) (sRet (eC (.bl false))) sNil)
  (sSeq (sFor (iRange1 (aCons (eCallB pLen (aCons (eVar 1) aNil)) aNil)) (tgName 2) (p__law_same_1 rec))
  (sRet (eC (.bl true))))) sNil)
  (sSeq (sIf (tBool (eBin pIsN (eVar 1) (eC .non))) (sRet (eBin pIsN (eVar 0) (eC .non))) sNil)
  (sSeq (sIf (tTru (eCallB pIsi (aCons (eVar 1) (aCons (eC (.ty "bool")) aNil)))) (sRet (eAnd (eCallB pIsi (aCons (eVar 0) (aCons (eC (.ty "bool")) aNil))) (eBin pEq (eVar 0) (eVar 1)))) sNil)
  (sSeq (sIf (tTru (eCallB pIsi (aCons (eVar 1) (aCons (eC (.ty "int")) aNil)))) (sRet (eAnd (eCallB pIsi (aCons (eVar 0) (aCons (eC (.ty "int")) aNil))) (eAnd (eNot (eCallB pIsi (aCons (eVar 0) (aCons (eC (.ty "bool")) aNil)))) (eBin pEq (eVar 0) (eVar 1))))) sNil)
  (sRet (eAnd (eCallB pIsi (aCons (eVar 0) (aCons (eC (.ty "str")) aNil))) (eBin pEq (eVar 0) (eVar 1))))))))
noncomputable def fn__law_same : Nat → List D → HH → R D
  | 0 => fun _ _ => .bad
  | n + 1 => mkFn 2 [none] (b__law_same (fn__law_same n))
abbrev N__law_events : List Str := ["bag", "script", "words", "wide", "rows", "tick", "at", "word", "number"]
noncomputable def p__law_events_1 : SS :=
  (sSeq (sSet 5 (eCallB pMin2 (aCons (eC (.int 400)) (aCons (eBin pAdd (eVar 5) (eCall fn__law_take (aCons (eVar 0) (aCons (eVar 1) (aCons (eVar 3) aNil))))) aNil))))
  (sSeq (sSet 7 (eBin pIdx (eVar 2) (eCall fn__law_take (aCons (eVar 0) (aCons (eVar 1) (aCons (eC (.int 8)) aNil))))))
  (sSeq (sSet 8 (eUn pNeg (eC (.int 1))))
  (sSeq (sIf (tAnd' (tBool (eBin pNe (eVar 7) (eC (.str [99, 114, 97, 115, 104])))) (tBool (eBin pNe (eVar 7) (eC (.str [103, 105, 118, 101, 32, 117, 112]))))) (sSet 8 (eCall fn__law_take (aCons (eVar 0) (aCons (eVar 1) (aCons (eC (.int 40)) aNil))))) sNil)
  (sExpr (eMeth "list" pAppend (eVar 4) (aCons (eTup (aCons (eVar 5) (aCons (eVar 7) (aCons (eVar 8) aNil)))) aNil)))))))
noncomputable def b__law_events : SS :=
  (sSeq (sSet 2 (eLst (aCons (eC (.str [97, 115, 107])) (aCons (eC (.str [97, 114, 114, 105, 118, 101])) (aCons (eC (.str [100, 111])) (aCons (eC (.str [97, 103, 97, 105, 110])) (aCons (eC (.str [104, 101, 97, 114])) (aCons (eC (.str [108, 97, 116, 101])) (aCons (eC (.str [99, 114, 97, 115, 104])) (aCons (eC (.str [103, 105, 118, 101, 32, 117, 112])) aNil))))))))))
  (sSeq (sSet 3 (eBin pAdd (eC (.int 2)) (eCall fn__law_take (aCons (eVar 0) (aCons (eVar 1) (aCons (eC (.int 3)) aNil))))))
  (sSeq (sSet 4 (eLst aNil))
  (sSeq (sSet 5 (eCall fn__law_take (aCons (eVar 0) (aCons (eVar 1) (aCons (eC (.int 12)) aNil)))))
  (sSeq (sFor (iRange1 (aCons (eBin pAdd (eC (.int 60)) (eCall fn__law_take (aCons (eVar 0) (aCons (eVar 1) (aCons (eC (.int 241)) aNil))))) aNil)) (tgName 6) p__law_events_1)
  (sRet (eVar 4)))))))
noncomputable def fn__law_events : List D → HH → R D := mkFn 2 [none, none, none, none, none, none, none] b__law_events
abbrev N__law_line : List Str := ["event"]
noncomputable def b__law_line : SS :=
  (sSeq (sIf (tBool (eBin pLt (eBin pIdx (eVar 0) (eC (.int 2))) (eC (.int 0)))) (sRet (eBin pAdd (eBin pAdd (eBin pAdd (eCallB pStr (aCons (eBin pIdx (eVar 0) (eC (.int 0))) aNil)) (eC (.str [32]))) (eBin pIdx (eVar 0) (eC (.int 1)))) (eC (.str [10])))) sNil)
  (sRet (eBin pAdd (eBin pAdd (eBin pAdd (eBin pAdd (eBin pAdd (eCallB pStr (aCons (eBin pIdx (eVar 0) (eC (.int 0))) aNil)) (eC (.str [32]))) (eBin pIdx (eVar 0) (eC (.int 1)))) (eC (.str [32]))) (eCallB pStr (aCons (eBin pIdx (eVar 0) (eC (.int 2))) aNil))) (eC (.str [10])))))
noncomputable def fn__law_line : List D → HH → R D := mkFn 1 [] b__law_line
abbrev N__law_sign : List Str := ["bag", "script", "signs"]
noncomputable def b__law_sign : SS :=
  (sSeq (sSet 2 (eC (.str [48, 49, 50, 51, 52, 53, 54, 55, 56, 57, 32, 10])))
  (sSeq (sIf (tBool (eBin pEq (eCall fn__law_take (aCons (eVar 0) (aCons (eVar 1) (aCons (eC (.int 3)) aNil)))) (eC (.int 0)))) (sSet 2 (eC (.str [32, 33, 34, 35, 36, 38, 39, 40, 41, 42, 43, 44, 45, 46, 47, 48, 49, 50, 51, 52, 53, 54, 55, 56, 57, 58, 59, 60, 61, 62, 63, 64, 65, 66, 67, 68, 69, 70, 71, 72, 73, 74, 75, 76, 77, 78, 79, 80, 81, 82, 83, 84, 85, 86, 87, 88, 89, 90, 91, 92, 93, 94, 95, 96, 97, 98, 99, 100, 101, 102, 103, 104, 105, 106, 107, 108, 109, 110, 111, 112, 113, 114, 115, 116, 117, 118, 119, 120, 121, 122, 123, 124, 125, 126, 10]))) sNil)
  (sRet (eBin pIdx (eVar 2) (eCall fn__law_take (aCons (eVar 0) (aCons (eVar 1) (aCons (eCallB pLen (aCons (eVar 2) aNil)) aNil))))))))
noncomputable def fn__law_sign : List D → HH → R D := mkFn 2 [none] b__law_sign
abbrev N__law_changed : List Str := ["bag", "script", "text", "place", "kind", "sign"]
noncomputable def b__law_changed : SS :=
  (sSeq (sSet 4 (eCall fn__law_take (aCons (eVar 0) (aCons (eVar 1) (aCons (eC (.int 4)) aNil)))))
  (sSeq (sSet 5 (eCall fn__law_sign (aCons (eVar 0) (aCons (eVar 1) aNil))))
  (sSeq (sIf (tBool (eBin pEq (eVar 4) (eC (.int 0)))) (sRet (eBin pAdd (eBin pAdd (eSl (eVar 2) oNone (oSome (eVar 3))) (eVar 5)) (eSl (eVar 2) (oSome (eBin pAdd (eVar 3) (eC (.int 1)))) oNone))) sNil)
  (sSeq (sIf (tBool (eBin pEq (eVar 4) (eC (.int 1)))) (sRet (eBin pAdd (eBin pAdd (eSl (eVar 2) oNone (oSome (eVar 3))) (eVar 5)) (eSl (eVar 2) (oSome (eVar 3)) oNone))) sNil)
  (sSeq (sIf (tBool (eBin pEq (eVar 4) (eC (.int 2)))) (sRet (eBin pAdd (eSl (eVar 2) oNone (oSome (eVar 3))) (eSl (eVar 2) (oSome (eBin pAdd (eVar 3) (eC (.int 1)))) oNone))) sNil)
  (sRet (eSl (eVar 2) oNone (oSome (eVar 3)))))))))
noncomputable def fn__law_changed : List D → HH → R D := mkFn 4 [none, none] b__law_changed
abbrev N__law_stage : List Str := ["part", "at", "wanted", "best", "k", "same", "sign"]
noncomputable def p__law_stage_1 : SS :=
  (sSeq (sIf (tBool (eBin pNe (eSl (eVar 0) (oSome (eBin pAdd (eVar 1) (eVar 5))) (oSome (eBin pAdd (eBin pAdd (eVar 1) (eVar 5)) (eC (.int 1))))) (eVar 6))) sBrk sNil)
  (sSet 5 (eBin pAdd (eVar 5) (eC (.int 1)))))
noncomputable def p__law_stage_2 : SS :=
  (sSeq (sSet 5 (eC (.int 0)))
  (sSeq (sFor (iSeq (eBin pIdx (eVar 2) (eVar 4))) (tgName 6) p__law_stage_1)
  (sSeq (sIf (tBool (eBin pEq (eVar 5) (eCallB pLen (aCons (eBin pIdx (eVar 2) (eVar 4)) aNil)))) (sRet (eTup (aCons (eVar 4) (aCons (eBin pAdd (eVar 1) (eVar 5)) aNil)))) sNil)
  (sSet 3 (eCallB pMax2 (aCons (eVar 3) (aCons (eVar 5) aNil)))))))
noncomputable def b__law_stage : SS :=
  (sSeq (sSet 3 (eC (.int 0)))
  (sSeq (sFor (iRange1 (aCons (eCallB pLen (aCons (eVar 2) aNil)) aNil)) (tgName 4) p__law_stage_2)
  (sRet (eTup (aCons (eUn pNeg (eC (.int 1))) (aCons (eBin pAdd (eVar 1) (eVar 3)) aNil))))))
noncomputable def fn__law_stage : List D → HH → R D := mkFn 3 [none, none, none, none] b__law_stage
abbrev N__law_read_line : List Str := ["part", "low", "ended", "first", "tick", "second", "word", "third", "number"]
noncomputable def p__law_read_line_1 : ES :=
  (eBin pAdd (eCallB pStr (aCons (eVar 4) aNil)) (eC (.str [32])))
noncomputable def p__law_read_line_2 : ES :=
  (eBin pAdd (eCallB pStr (aCons (eVar 8) aNil)) (eC (.str [10])))
noncomputable def b__law_read_line : SS :=
  (sSeq (sSet 2 (eLst (aCons (eC (.str [97, 115, 107, 32])) (aCons (eC (.str [97, 114, 114, 105, 118, 101, 32])) (aCons (eC (.str [100, 111, 32])) (aCons (eC (.str [97, 103, 97, 105, 110, 32])) (aCons (eC (.str [104, 101, 97, 114, 32])) (aCons (eC (.str [108, 97, 116, 101, 32])) (aCons (eC (.str [99, 114, 97, 115, 104, 10])) (aCons (eC (.str [103, 105, 118, 101, 32, 117, 112, 10])) aNil))))))))))
  (sSeq (sSet 3 (eCall fn__law_stage (aCons (eVar 0) (aCons (eC (.int 0)) (aCons (eLc (iRange2 (aCons (eVar 1) (aCons (eC (.int 401)) aNil))) (tgName 4) tYes' p__law_read_line_1 [4]) aNil)))))
  (sSeq (sIf (tBool (eBin pLt (eBin pIdx (eVar 3) (eC (.int 0))) (eC (.int 0)))) (sRet (eTup (aCons (eC .non) (aCons (eBin pIdx (eVar 3) (eC (.int 1))) aNil)))) sNil)
  (sSeq (sSet 5 (eCall fn__law_stage (aCons (eVar 0) (aCons (eBin pIdx (eVar 3) (eC (.int 1))) (aCons (eVar 2) aNil)))))
  (sSeq (sIf (tBool (eBin pLt (eBin pIdx (eVar 5) (eC (.int 0))) (eC (.int 0)))) (sRet (eTup (aCons (eC .non) (aCons (eBin pIdx (eVar 5) (eC (.int 1))) aNil)))) sNil)
  (sSeq (sSet 6 (eBin pIdx (eVar 2) (eBin pIdx (eVar 5) (eC (.int 0)))))
  (sSeq (sIf (tBool (eBin pGt (eBin pIdx (eVar 5) (eC (.int 0))) (eC (.int 5)))) (sRet (eTup (aCons (eTup (aCons (eBin pAdd (eVar 1) (eBin pIdx (eVar 3) (eC (.int 0)))) (aCons (eSl (eVar 6) oNone (oSome (eBin pSub (eCallB pLen (aCons (eVar 6) aNil)) (eC (.int 1))))) (aCons (eUn pNeg (eC (.int 1))) aNil)))) (aCons (eBin pIdx (eVar 5) (eC (.int 1))) aNil)))) sNil)
  (sSeq (sSet 7 (eCall fn__law_stage (aCons (eVar 0) (aCons (eBin pIdx (eVar 5) (eC (.int 1))) (aCons (eLc (iRange1 (aCons (eC (.int 40)) aNil)) (tgName 8) tYes' p__law_read_line_2 [8]) aNil)))))
  (sSeq (sIf (tBool (eBin pLt (eBin pIdx (eVar 7) (eC (.int 0))) (eC (.int 0)))) (sRet (eTup (aCons (eC .non) (aCons (eBin pIdx (eVar 7) (eC (.int 1))) aNil)))) sNil)
  (sRet (eTup (aCons (eTup (aCons (eBin pAdd (eVar 1) (eBin pIdx (eVar 3) (eC (.int 0)))) (aCons (eSl (eVar 6) oNone (oSome (eBin pSub (eCallB pLen (aCons (eVar 6) aNil)) (eC (.int 1))))) (aCons (eBin pIdx (eVar 7) (eC (.int 0))) aNil)))) (aCons (eBin pIdx (eVar 7) (eC (.int 1))) aNil)))))))))))))
noncomputable def fn__law_read_line : List D → HH → R D := mkFn 2 [none, none, none, none, none, none, none] b__law_read_line
abbrev N__law_due : List Str := ["events", "lines", "text", "place", "k", "start", "turn", "found", "low", "row", "rest"]
noncomputable def p__law_due_1 : SS :=
  (sIf (tBool (eBin pLe (eBin pAdd (eVar 5) (eCallB pLen (aCons (eBin pIdx (eVar 1) (eVar 4)) aNil))) (eVar 3))) (sSeq (sSet 5 (eBin pAdd (eVar 5) (eCallB pLen (aCons (eBin pIdx (eVar 1) (eVar 4)) aNil))))
  (sSet 4 (eBin pAdd (eVar 4) (eC (.int 1))))) sBrk)
noncomputable def p__law_due_2 : SS :=
  (sIf (tBool (eBin pLt (eVar 5) (eCallB pLen (aCons (eVar 2) aNil)))) (sSeq (sSet 9 (eCall fn__law_read_line (aCons (eSl (eVar 2) (oSome (eVar 5)) (oSome (eBin pAdd (eVar 5) (eC (.int 60))))) (aCons (eVar 8) aNil))))
  (sSeq (sIf (tBool (eBin pIsN (eBin pIdx (eVar 9) (eC (.int 0))) (eC .non))) (sRet (eTup (aCons (eC .non) (aCons (eBin pAdd (eCallB pLen (aCons (eVar 7) aNil)) (eC (.int 1))) (aCons (eBin pAdd (eBin pIdx (eVar 9) (eC (.int 1))) (eC (.int 1))) aNil))))) sNil)
  (sSeq (sSet 7 (eBin pAdd (eVar 7) (eLst (aCons (eBin pIdx (eVar 9) (eC (.int 0))) aNil))))
  (sSeq (sSet 8 (eBin pIdx (eBin pIdx (eVar 9) (eC (.int 0))) (eC (.int 0))))
  (sSet 5 (eBin pAdd (eVar 5) (eBin pIdx (eVar 9) (eC (.int 1))))))))) sNil)
noncomputable def b__law_due : SS :=
  (sSeq (sSet 4 (eC (.int 0)))
  (sSeq (sSet 5 (eC (.int 0)))
  (sSeq (sFor (iRange1 (aCons (eCallB pLen (aCons (eVar 1) aNil)) aNil)) (tgName 6) p__law_due_1)
  (sSeq (sSet 7 (eSl (eVar 0) oNone (oSome (eVar 4))))
  (sSeq (sSet 8 (eC (.int 0)))
  (sSeq (sIf (tBool (eBin pGt (eVar 4) (eC (.int 0)))) (sSet 8 (eBin pIdx (eBin pIdx (eVar 0) (eBin pSub (eVar 4) (eC (.int 1)))) (eC (.int 0)))) sNil)
  (sSeq (sFor (iRange1 (aCons (eC (.int 4)) aNil)) (tgName 6) p__law_due_2)
  (sSeq (sSet 10 (eMeth "str" pCount (eSl (eVar 2) (oSome (eVar 5)) oNone) (aCons (eC (.str [10])) aNil)))
  (sRet (eTup (aCons (eCallB pTuple (aCons (eBin pAdd (eVar 7) (eSl (eVar 0) (oSome (eBin pSub (eCallB pLen (aCons (eVar 0) aNil)) (eVar 10))) oNone)) aNil)) (aCons (eC (.int 0)) (aCons (eC (.int 0)) aNil)))))))))))))
noncomputable def fn__law_due : List D → HH → R D := mkFn 4 [none, none, none, none, none, none, none] b__law_due
abbrev N__law_told : List Str := ["text", "e"]
noncomputable def b__law_told : SS :=
  (sTryRet 1 (sRet (eTup (aCons (eCall fn_read_log (aCons (eVar 0) aNil)) (aCons (eC (.int 0)) (aCons (eC (.int 0)) aNil))))) "BadLine" ["BadBook"] (xTup (xCons (xC .non) (xCons (xF "line") (xCons (xF "column") xNil)))))
noncomputable def fn__law_told : List D → HH → R D := mkFn 1 [none] b__law_told
abbrev N__law_refused : List Str := ["row", "is_written", "e"]
noncomputable def b__law_refused : SS :=
  (sSeq (sTryRet 2 (sIf (tTru (eVar 1)) (sExpr (eCall fn_write_log (aCons (eVar 0) aNil))) (sExpr (eCall fn_check_log (aCons (eVar 0) aNil)))) "BadBook" ["BadLine"] (xF "part"))
  (sRet (eUn pNeg (eC (.int 1)))))
noncomputable def fn__law_refused : List D → HH → R D := mkFn 2 [none] b__law_refused
abbrev N_law : List Str := ["script", "bag", "events", "lines", "event", "text", "row", "turn", "place", "changed", "at", "odd", "bent"]
noncomputable def p_law_1 : ES :=
  (eCall fn__law_line (aCons (eVar 4) aNil))
noncomputable def p_law_2 : SS :=
  (sSeq (sSet 8 (eCall fn__law_take (aCons (eVar 1) (aCons (eVar 0) (aCons (eBin pAdd (eCallB pLen (aCons (eVar 5) aNil)) (eC (.int 1))) aNil)))))
  (sSeq (sSet 9 (eCall fn__law_changed (aCons (eVar 1) (aCons (eVar 0) (aCons (eVar 5) (aCons (eVar 8) aNil))))))
  (sIf (tNot' (tTru (eCall (fn__law_same 6) (aCons (eCall fn__law_told (aCons (eVar 9) aNil)) (aCons (eCall fn__law_due (aCons (eVar 2) (aCons (eVar 3) (aCons (eVar 9) (aCons (eVar 8) aNil))))) aNil))))) (sRet (eC (.bl false))) sNil)))
noncomputable def b_law : SS :=
  (sSeq (sSet 1 (eCall fn__law_bag (aCons (eVar 0) aNil)))
  (sSeq (sSet 2 (eCall fn__law_events (aCons (eVar 1) (aCons (eVar 0) aNil))))
  (sSeq (sSet 3 (eLc (iSeq (eVar 2)) (tgName 4) tYes' p_law_1 [4]))
  (sSeq (sSet 5 (eMeth "str" pJoin (eC (.str [])) (aCons (eVar 3) aNil)))
  (sSeq (sSet 6 (eCallB pTuple (aCons (eVar 2) aNil)))
  (sSeq (sIf (tOr' (tNot' (tTru (eCall (fn__law_same 6) (aCons (eCall fn_write_log (aCons (eVar 6) aNil)) (aCons (eVar 5) aNil))))) (tNot' (tTru (eCall (fn__law_same 6) (aCons (eCall fn_read_log (aCons (eVar 5) aNil)) (aCons (eVar 6) aNil)))))) (sRet (eC (.bl false))) sNil)
  (sSeq (sIf (tBool (eBin pNotN (eCall fn_check_log (aCons (eVar 6) aNil)) (eC .non))) (sRet (eC (.bl false))) sNil)
  (sSeq (sFor (iRange1 (aCons (eC (.int 3)) aNil)) (tgName 7) p_law_2)
  (sSeq (sSet 10 (eCall fn__law_take (aCons (eVar 1) (aCons (eVar 0) (aCons (eCallB pLen (aCons (eVar 2) aNil)) aNil)))))
  (sSeq (sSet 11 (eLst (aCons (eTup (aCons (eC (.int 401)) (aCons (eC (.str [97, 115, 107])) (aCons (eC (.int 0)) aNil)))) (aCons (eTup (aCons (eC (.int 400)) (aCons (eC (.str [97, 115, 107])) (aCons (eC (.int 40)) aNil)))) (aCons (eTup (aCons (eC (.int 400)) (aCons (eC (.str [103, 105, 118, 101, 32, 117, 112])) (aCons (eC (.int 0)) aNil)))) (aCons (eTup (aCons (eC (.int 400)) (aCons (eC (.str [97, 114, 105, 118, 101])) (aCons (eC (.int 1)) aNil)))) (aCons (eTup (aCons (eC (.int 400)) (aCons (eC (.str [100, 111])) aNil))) (aCons (eC .non) (aCons (eTup (aCons (eC (.bl true)) (aCons (eC (.str [100, 111])) (aCons (eC (.int 1)) aNil)))) aNil)))))))))
  (sSeq (sSet 11 (eBin pAdd (eVar 11) (eLst (aCons (eTup (aCons (eC (.int 400)) (aCons (eC (.str [104, 101, 97, 114])) (aCons (eC (.bl true)) aNil)))) (aCons (eTup (aCons (eC (.int 400)) (aCons (eC (.str [99, 114, 97, 115, 104])) (aCons (eC (.int 0)) aNil)))) (aCons (eTup (aCons (eC (.int 400)) (aCons (eC (.str [97, 115, 107])) (aCons (eUn pNeg (eC (.int 1))) aNil)))) (aCons (eC (.int 400)) aNil)))))))
  (sSeq (sIf (tAnd' (tBool (eBin pGt (eVar 10) (eC (.int 0)))) (tBool (eBin pGt (eBin pIdx (eBin pIdx (eVar 2) (eBin pSub (eVar 10) (eC (.int 1)))) (eC (.int 0))) (eC (.int 0))))) (sSet 11 (eBin pAdd (eVar 11) (eBin pMul (eLst (aCons (eTup (aCons (eBin pSub (eBin pIdx (eBin pIdx (eVar 2) (eBin pSub (eVar 10) (eC (.int 1)))) (eC (.int 0))) (eC (.int 1))) (aCons (eC (.str [97, 115, 107])) (aCons (eC (.int 0)) aNil)))) aNil)) (eC (.int 5))))) sNil)
  (sSeq (sSet 12 (eBin pAdd (eBin pAdd (eSl (eVar 6) oNone (oSome (eVar 10))) (eTup (aCons (eBin pIdx (eVar 11) (eCall fn__law_take (aCons (eVar 1) (aCons (eVar 0) (aCons (eCallB pLen (aCons (eVar 11) aNil)) aNil))))) aNil))) (eSl (eVar 6) (oSome (eBin pAdd (eVar 10) (eC (.int 1)))) oNone)))
  (sRet (eAnd (eCall (fn__law_same 6) (aCons (eCall fn__law_refused (aCons (eVar 12) (aCons (eC (.bl false)) aNil))) (aCons (eVar 10) aNil))) (eCall (fn__law_same 6) (aCons (eCall fn__law_refused (aCons (eVar 12) (aCons (eC (.bl true)) aNil))) (aCons (eVar 10) aNil))))))))))))))))))
noncomputable def fn_law : List D → HH → R D := mkFn 1 [none, none, none, none, none, none, none, none, none, none, none, none] b_law
/-! ### what the top has written -/
structure Txt (K : PySem.W.Frag) (mg : Str → Option Value) : Prop where
  n_abs : mg "abs" = none
  n_bool : mg "bool" = none
  n_enumerate : mg "enumerate" = none
  n_int : mg "int" = none
  n_isinstance : mg "isinstance" = none
  n_len : mg "len" = none
  n_max : mg "max" = none
  n_min : mg "min" = none
  n_range : mg "range" = none
  n_str : mg "str" = none
  n_tuple : mg "tuple" = none
  g_MOST_TICK : GlobD K mg "MOST_TICK" (.int 400)
  g_LAST_NUMBER : GlobD K mg "LAST_NUMBER" (.int 39)
  g_NUMBERED : GlobD K mg "NUMBERED" (.tup [(.str [97, 115, 107]), (.str [97, 114, 114, 105, 118, 101]), (.str [100, 111]), (.str [97, 103, 97, 105, 110]), (.str [104, 101, 97, 114]), (.str [108, 97, 116, 101])])
  g_PLAIN : GlobD K mg "PLAIN" (.tup [(.str [99, 114, 97, 115, 104]), (.str [103, 105, 118, 101, 32, 117, 112])])
  g_ENDED : GlobD K mg "ENDED" (.tup [(.str [97, 115, 107, 32]), (.str [97, 114, 114, 105, 118, 101, 32]), (.str [100, 111, 32]), (.str [97, 103, 97, 105, 110, 32]), (.str [104, 101, 97, 114, 32]), (.str [108, 97, 116, 101, 32]), (.str [99, 114, 97, 115, 104, 10]), (.str [103, 105, 118, 101, 32, 117, 112, 10])])
  g_DIGITS : GlobD K mg "DIGITS" (.str [48, 49, 50, 51, 52, 53, 54, 55, 56, 57])
  e_BadBook : HasExc K mg "BadBook" "BadBook.__init__" ["part"] s_BadBook
  e_BadLine : HasExc K mg "BadLine" "BadLine.__init__" ["line", "column"] s_BadLine
  x_BadBook : ∀ C : Addr, mg "BadBook" = some (.ref C) → ExL K mg "BadBook" ("BadBook" :: ["BadLine"]) C
  x_BadLine : ∀ C : Addr, mg "BadLine" = some (.ref C) → ExL K mg "BadLine" ("BadLine" :: ["BadBook"]) C
  f_is_int : HasFn K mg "is_int" s_is_int ["value"]
  f_is_int_in : HasFn K mg "is_int_in" s_is_int_in ["value", "low", "high"]
  f_is_event : HasFn K mg "is_event" s_is_event ["thing"]
  f_check_log : HasFn K mg "check_log" s_check_log ["log"]
  f__write_event : HasFn K mg "_write_event" s__write_event ["event"]
  f_write_log : HasFn K mg "write_log" s_write_log ["log"]
  f__refuse : HasFn K mg "_refuse" s__refuse ["text", "at"]
  f__can_begin : HasFn K mg "_can_begin" s__can_begin ["number", "low", "high"]
  f__read_number : HasFn K mg "_read_number" s__read_number ["text", "at", "low", "high"]
  f__read_char : HasFn K mg "_read_char" s__read_char ["text", "at", "wanted"]
  f__common : HasFn K mg "_common" s__common ["text", "at", "ended"]
  f__read_word : HasFn K mg "_read_word" s__read_word ["text", "at"]
  f_read_log : HasFn K mg "read_log" s_read_log ["text"]
  f__law_bag : HasFn K mg "_law_bag" s__law_bag ["script"]
  f__law_take : HasFn K mg "_law_take" s__law_take ["bag", "script", "many"]
  f__law_same : HasFn K mg "_law_same" s__law_same ["told", "due"]
  f__law_events : HasFn K mg "_law_events" s__law_events ["bag", "script"]
  f__law_line : HasFn K mg "_law_line" s__law_line ["event"]
  f__law_sign : HasFn K mg "_law_sign" s__law_sign ["bag", "script"]
  f__law_changed : HasFn K mg "_law_changed" s__law_changed ["bag", "script", "text", "place"]
  f__law_stage : HasFn K mg "_law_stage" s__law_stage ["part", "at", "wanted"]
  f__law_read_line : HasFn K mg "_law_read_line" s__law_read_line ["part", "low"]
  f__law_due : HasFn K mg "_law_due" s__law_due ["events", "lines", "text", "place"]
  f__law_told : HasFn K mg "_law_told" s__law_told ["text"]
  f__law_refused : HasFn K mg "_law_refused" s__law_refused ["row", "is_written"]
  f_law : HasFn K mg "law" s_law ["script"]
section
variable {P : Program} {w : World} {K : PySem.W.Frag} {mg : Str → Option Value} {base : Heap}
theorem sce_BadBook : FnScope ["self", "part"] ["self", "part"] (defScope s_BadBook) := ⟨rfl, rfl, rfl, by decide +kernel, rfl, by decide +kernel, by decide +kernel⟩
theorem exc_BadBook (T : Txt K mg) : ExcC P w K mg base "BadBook" ["part"] := exc1 T.e_BadBook sce_BadBook fun f cdv A outer s H E => pss_one (ps_ost (pv 0) (pv 1))
theorem sce_BadLine : FnScope ["self", "line", "column"] ["self", "line", "column"] (defScope s_BadLine) := ⟨rfl, rfl, rfl, by decide +kernel, rfl, by decide +kernel, by decide +kernel⟩
theorem exc_BadLine (T : Txt K mg) : ExcC P w K mg base "BadLine" ["line", "column"] := exc2 T.e_BadLine sce_BadLine fun f cdv A outer s H E => pss_cons (ps_ost (pv 0) (pv 1)) (pss_one (ps_ost (pv 0) (pv 2)))
theorem sc_is_int : FnScope N_is_int ["value"] (defScope s_is_int) := ⟨rfl, rfl, rfl, by decide +kernel, rfl, by decide +kernel, by decide +kernel⟩
theorem ok_is_int (T : Txt K mg) : OkFn P w K mg base 1 "is_int" ["value"] fn_is_int := by
  exact ok_fn (N := N_is_int) (k := 0) (body := b_is_int) T.f_is_int sc_is_int rfl fun f cdv A outer s H E hr tk hp =>
  (c_one (c_ret (c_vand (c_callB b_isi T.n_isinstance bt_isinstance (c_cons (c_var 0) (c_cons (c_ty T.n_int bt_int) c_nil))) (c_vone (c_vnot (c_callB b_isi T.n_isinstance bt_isinstance (c_cons (c_var 0) (c_cons (c_ty T.n_bool bt_bool) c_nil))))))))
theorem sc_is_int_in : FnScope N_is_int_in ["value", "low", "high"] (defScope s_is_int_in) := ⟨rfl, rfl, rfl, by decide +kernel, rfl, by decide +kernel, by decide +kernel⟩
theorem ok_is_int_in (T : Txt K mg) : OkFn P w K mg base 2 "is_int_in" ["value", "low", "high"] fn_is_int_in := by
  exact ok_fn (N := N_is_int_in) (k := 1) (body := b_is_int_in) T.f_is_int_in sc_is_int_in rfl fun f cdv A outer s H E hr tk hp =>
  (c_one (c_ret (c_vand (c_fn (ok_is_int T) hr tk (c_cons (c_var 0) c_nil)) (c_vone (c_chain o_le o_le (c_var 1) (c_var 0) (c_var 2))))))
theorem sc_is_event : FnScope N_is_event ["thing"] (defScope s_is_event) := ⟨rfl, rfl, rfl, by decide +kernel, rfl, by decide +kernel, by decide +kernel⟩
theorem ok_is_event (T : Txt K mg) : OkFn P w K mg base 3 "is_event" ["thing"] fn_is_event := by
  exact ok_fn (N := N_is_event) (k := 2) (body := b_is_event) T.f_is_event sc_is_event rfl fun f cdv A outer s H E hr tk hp =>
  (c_seq (c_ifs (c_tw (c_or (c_tnot (c_tru (c_callB b_isi T.n_isinstance bt_isinstance (c_cons (c_var 0) (c_cons (c_ty T.n_tuple bt_tuple) c_nil))))) (c_or1 (c_tcmp (o_ne hr.units) (c_callB b_len T.n_len bt_len (c_cons (c_var 0) c_nil)) c_int)))) (c_one (c_ret c_bl)) c_snil)
  (c_seq (c_asg (c_var 0) (c_gtup rfl (c_gcons (c_gname 1 sc_is_event.nd) (c_gcons (c_gname 2 sc_is_event.nd) (c_gcons (c_gname 3 sc_is_event.nd) c_gnil)))))
  (c_seq (c_ifs (c_tw (c_or (c_tnot (c_tru (c_fn (ok_is_int_in T) hr tk (c_cons (c_var 1) (c_cons c_int (c_cons (c_glob T.g_MOST_TICK) c_nil)))))) (c_or1 (c_tnot (c_tru (c_callB b_isi T.n_isinstance bt_isinstance (c_cons (c_var 2) (c_cons (c_ty T.n_str bt_str) c_nil)))))))) (c_one (c_ret c_bl)) c_snil)
  (c_seq (c_ifs (c_tcmp o_in (c_var 2) (c_glob T.g_PLAIN)) (c_one (c_ret (c_fn (ok_is_int_in T) hr tk (c_cons (c_var 3) (c_cons (c_un o_neg c_int) (c_cons (c_un o_neg c_int) c_nil)))))) c_snil)
  (c_one (c_ret (c_vand (c_cmp o_in (c_var 2) (c_glob T.g_NUMBERED)) (c_vone (c_fn (ok_is_int_in T) hr tk (c_cons (c_var 3) (c_cons c_int (c_cons (c_glob T.g_LAST_NUMBER) c_nil))))))))))))
theorem sc_check_log : FnScope N_check_log ["log"] (defScope s_check_log) := ⟨rfl, rfl, rfl, by decide +kernel, rfl, by decide +kernel, by decide +kernel⟩
theorem ok_check_log (T : Txt K mg) : OkFn P w K mg base 4 "check_log" ["log"] fn_check_log := by
  exact ok_fn (N := N_check_log) (k := 3) (body := b_check_log) T.f_check_log sc_check_log rfl fun f cdv A outer s H E hr tk hp =>
  (c_seq (c_set 1 sc_check_log.nd c_int)
  (c_one (c_for hp rfl (c_enum T.n_enumerate (c_cons (c_var 0) c_nil)) (c_gtup rfl (c_gcons (c_gname 2 sc_check_log.nd) (c_gcons (c_gname 3 sc_check_log.nd) c_gnil))) (c_seq (c_ifs (c_tw (c_or (c_tnot (c_tru (c_fn (ok_is_event T) hr tk (c_cons (c_var 3) c_nil)))) (c_or1 (c_tcmp o_lt (c_idx (c_var 3) c_int) (c_var 1))))) (c_one (c_raise (exc_BadBook T) rfl hr tk (c_cons (c_var 2) c_nil))) c_snil)
  (c_one (c_set 1 sc_check_log.nd (c_idx (c_var 3) c_int)))))))
theorem sc__write_event : FnScope N__write_event ["event"] (defScope s__write_event) := ⟨rfl, rfl, rfl, by decide +kernel, rfl, by decide +kernel, by decide +kernel⟩
theorem ok__write_event (T : Txt K mg) : OkFn P w K mg base 1 "_write_event" ["event"] fn__write_event := by
  exact ok_fn (N := N__write_event) (k := 0) (body := b__write_event) T.f__write_event sc__write_event rfl fun f cdv A outer s H E hr tk hp =>
  (c_seq (c_asg (c_var 0) (c_gtup rfl (c_gcons (c_gname 1 sc__write_event.nd) (c_gcons (c_gname 2 sc__write_event.nd) (c_gcons (c_gname 3 sc__write_event.nd) c_gnil)))))
  (c_seq (c_ifs (c_tcmp o_in (c_var 2) (c_glob T.g_PLAIN)) (c_one (c_ret (c_bin o_add (c_bin o_add (c_callTy b_str T.n_str bt_str (c_cons (c_var 1) c_nil)) (c_str _)) (c_var 2)))) c_snil)
  (c_one (c_ret (c_bin o_add (c_bin o_add (c_bin o_add (c_bin o_add (c_callTy b_str T.n_str bt_str (c_cons (c_var 1) c_nil)) (c_str _)) (c_var 2)) (c_str _)) (c_callTy b_str T.n_str bt_str (c_cons (c_var 3) c_nil)))))))
theorem sc_write_log : FnScope N_write_log ["log"] (defScope s_write_log) := ⟨rfl, rfl, rfl, by decide +kernel, rfl, by decide +kernel, by decide +kernel⟩
theorem ok_write_log (T : Txt K mg) : OkFn P w K mg base 5 "write_log" ["log"] fn_write_log := by
  exact ok_fn (N := N_write_log) (k := 4) (body := b_write_log) T.f_write_log sc_write_log rfl fun f cdv A outer s H E hr tk hp =>
  (c_seq (c_expr (c_fn (ok_check_log T) hr tk (c_cons (c_var 0) c_nil)))
  (c_one (c_ret (c_meth PySem.F.plainAttrs_str PySem.F.slot_str_join PySem.F.type_str_join m_join (c_str _) (c_cons (c_lc [("event", 1)] rfl sc_write_log.nd (c_iseq (c_var 0)) (blkOk_by (N := N_write_log) (sc := defScope s_write_log) (by decide +kernel)) (fun _ _ _ _ _ => (c_gname 1 sc_write_log.nd)) (fun _ _ _ _ _ => c_tsnil) (fun _ _ _ _ _ => (c_bin o_add (c_fn (ok__write_event T) hr takes0 (c_cons (c_var 1) c_nil)) (c_str _)))) c_nil)))))
theorem sc__refuse : FnScope N__refuse ["text", "at"] (defScope s__refuse) := ⟨rfl, rfl, rfl, by decide +kernel, rfl, by decide +kernel, by decide +kernel⟩
theorem ok__refuse (T : Txt K mg) : OkFn P w K mg base 3 "_refuse" ["text", "at"] fn__refuse := by
  exact ok_fn (N := N__refuse) (k := 2) (body := b__refuse) T.f__refuse sc__refuse rfl fun f cdv A outer s H E hr tk hp =>
  (c_seq (c_set 2 sc__refuse.nd (c_sl (c_var 0) c_onone (c_osome (c_var 1))))
  (c_one (c_raise (exc_BadLine T) rfl hr tk (c_cons (c_bin o_add (c_meth PySem.F.plainAttrs_str PySem.F.slot_str_count PySem.F.type_str_count m_count (c_var 2) (c_cons (c_str _) c_nil)) c_int) (c_cons (c_bin o_sub (c_var 1) (c_meth PySem.F.plainAttrs_str PySem.F.slot_str_rfind PySem.F.type_str_rfind m_rfind (c_var 2) (c_cons (c_str _) c_nil))) c_nil)))))
theorem sc__can_begin : FnScope N__can_begin ["number", "low", "high"] (defScope s__can_begin) := ⟨rfl, rfl, rfl, by decide +kernel, rfl, by decide +kernel, by decide +kernel⟩
theorem ok__can_begin (T : Txt K mg) : OkFn P w K mg base 1 "_can_begin" ["number", "low", "high"] fn__can_begin := by
  exact ok_fn (N := N__can_begin) (k := 0) (body := b__can_begin) T.f__can_begin sc__can_begin rfl fun f cdv A outer s H E hr tk hp =>
  (c_seq (c_set 3 sc__can_begin.nd (c_var 0))
  (c_seq (c_set 4 sc__can_begin.nd (c_var 0))
  (c_seq (c_while hp (c_tcmp o_le (c_var 3) (c_var 2)) (c_seq (c_ifs (c_tcmp o_ge (c_var 4) (c_var 1)) (c_one (c_ret c_bl)) c_snil)
  (c_seq (c_ifs (c_tcmp (o_eq hr.units) (c_var 0) c_int) (c_one (c_ret c_bl)) c_snil)
  (c_seq (c_set 3 sc__can_begin.nd (c_bin o_mul (c_var 3) c_int))
  (c_one (c_set 4 sc__can_begin.nd (c_bin o_add (c_bin o_mul (c_var 4) c_int) c_int)))))))
  (c_one (c_ret c_bl)))))
theorem sc__read_number : FnScope N__read_number ["text", "at", "low", "high"] (defScope s__read_number) := ⟨rfl, rfl, rfl, by decide +kernel, rfl, by decide +kernel, by decide +kernel⟩
theorem ok__read_number (T : Txt K mg) : OkFn P w K mg base 4 "_read_number" ["text", "at", "low", "high"] fn__read_number := by
  exact ok_fn (N := N__read_number) (k := 3) (body := b__read_number) T.f__read_number sc__read_number rfl fun f cdv A outer s H E hr tk hp =>
  (c_seq (c_set 4 sc__read_number.nd c_int)
  (c_seq (c_set 5 sc__read_number.nd (c_var 1))
  (c_seq (c_while hp (c_tw (c_and (c_tcmp o_lt (c_var 1) (c_callB b_len T.n_len bt_len (c_cons (c_var 0) c_nil))) (c_and1 (c_tcmp o_in (c_idx (c_var 0) (c_var 1)) (c_glob T.g_DIGITS))))) (c_seq (c_set 6 sc__read_number.nd (c_bin o_add (c_bin o_mul (c_var 4) c_int) (c_meth PySem.F.plainAttrs_str PySem.F.slot_str_index PySem.F.type_str_index m_sindex (c_glob T.g_DIGITS) (c_cons (c_idx (c_var 0) (c_var 1)) c_nil))))
  (c_seq (c_ifs (c_tw (c_or (c_tw (c_and (c_tcmp o_gt (c_var 1) (c_var 5)) (c_and1 (c_tcmp (o_eq hr.units) (c_var 4) c_int)))) (c_or1 (c_tnot (c_tru (c_fn (ok__can_begin T) hr tk (c_cons (c_var 6) (c_cons (c_var 2) (c_cons (c_var 3) c_nil))))))))) (c_one (c_expr (c_fn (ok__refuse T) hr tk (c_cons (c_var 0) (c_cons (c_var 1) c_nil))))) c_snil)
  (c_seq (c_set 4 sc__read_number.nd (c_var 6))
  (c_one (c_aug 1 sc__read_number.nd c_int o_iadd))))))
  (c_seq (c_ifs (c_tw (c_or (c_tcmp (o_eq hr.units) (c_var 1) (c_var 5)) (c_or1 (c_tcmp o_lt (c_var 4) (c_var 2))))) (c_one (c_expr (c_fn (ok__refuse T) hr tk (c_cons (c_var 0) (c_cons (c_var 1) c_nil))))) c_snil)
  (c_one (c_ret (c_tup (c_cons (c_var 4) (c_cons (c_var 1) c_nil)))))))))
theorem sc__read_char : FnScope N__read_char ["text", "at", "wanted"] (defScope s__read_char) := ⟨rfl, rfl, rfl, by decide +kernel, rfl, by decide +kernel, by decide +kernel⟩
theorem ok__read_char (T : Txt K mg) : OkFn P w K mg base 4 "_read_char" ["text", "at", "wanted"] fn__read_char := by
  exact ok_fn (N := N__read_char) (k := 3) (body := b__read_char) T.f__read_char sc__read_char rfl fun f cdv A outer s H E hr tk hp =>
  (c_seq (c_ifs (c_tcmp (o_ne hr.units) (c_sl (c_var 0) (c_osome (c_var 1)) (c_osome (c_bin o_add (c_var 1) c_int))) (c_var 2)) (c_one (c_expr (c_fn (ok__refuse T) hr tk (c_cons (c_var 0) (c_cons (c_var 1) c_nil))))) c_snil)
  (c_one (c_ret (c_bin o_add (c_var 1) c_int))))
theorem sc__common : FnScope N__common ["text", "at", "ended"] (defScope s__common) := ⟨rfl, rfl, rfl, by decide +kernel, rfl, by decide +kernel, by decide +kernel⟩
theorem ok__common (T : Txt K mg) : OkFn P w K mg base 1 "_common" ["text", "at", "ended"] fn__common := by
  exact ok_fn (N := N__common) (k := 0) (body := b__common) T.f__common sc__common rfl fun f cdv A outer s H E hr tk hp =>
  (c_seq (c_set 3 sc__common.nd c_int)
  (c_seq (c_while hp (c_tw (c_and (c_tcmp o_lt (c_var 3) (c_callB b_len T.n_len bt_len (c_cons (c_var 2) c_nil))) (c_and1 (c_tcmp (o_eq hr.units) (c_sl (c_var 0) (c_osome (c_bin o_add (c_var 1) (c_var 3))) (c_osome (c_bin o_add (c_bin o_add (c_var 1) (c_var 3)) c_int))) (c_idx (c_var 2) (c_var 3)))))) (c_one (c_aug 3 sc__common.nd c_int o_iadd)))
  (c_one (c_ret (c_var 3)))))
theorem sc__read_word : FnScope N__read_word ["text", "at"] (defScope s__read_word) := ⟨rfl, rfl, rfl, by decide +kernel, rfl, by decide +kernel, by decide +kernel⟩
theorem ok__read_word (T : Txt K mg) : OkFn P w K mg base 4 "_read_word" ["text", "at"] fn__read_word := by
  exact ok_fn (N := N__read_word) (k := 3) (body := b__read_word) T.f__read_word sc__read_word rfl fun f cdv A outer s H E hr tk hp =>
  (c_seq (c_set 2 sc__read_word.nd c_int)
  (c_seq (c_for hp rfl (c_iseq (c_glob T.g_ENDED)) (c_gname 3 sc__read_word.nd) (c_seq (c_set 4 sc__read_word.nd (c_fn (ok__common T) hr tk (c_cons (c_var 0) (c_cons (c_var 1) (c_cons (c_var 3) c_nil)))))
  (c_seq (c_ifs (c_tcmp (o_eq hr.units) (c_var 4) (c_callB b_len T.n_len bt_len (c_cons (c_var 3) c_nil))) (c_one (c_ret (c_tup (c_cons (c_sl (c_var 3) c_onone (c_osome (c_un o_neg c_int))) (c_cons (c_bin o_add (c_var 1) (c_var 4)) c_nil))))) c_snil)
  (c_one (c_set 2 sc__read_word.nd (c_callB (b_max2 rfl) T.n_max bt_max (c_cons (c_var 2) (c_cons (c_var 4) c_nil))))))))
  (c_one (c_expr (c_fn (ok__refuse T) hr tk (c_cons (c_var 0) (c_cons (c_bin o_add (c_var 1) (c_var 2)) c_nil)))))))
theorem sc_read_log : FnScope N_read_log ["text"] (defScope s_read_log) := ⟨rfl, rfl, rfl, by decide +kernel, rfl, by decide +kernel, by decide +kernel⟩
theorem ok_read_log (T : Txt K mg) : OkFn P w K mg base 5 "read_log" ["text"] fn_read_log := by
  exact ok_fn (N := N_read_log) (k := 4) (body := b_read_log) T.f_read_log sc_read_log rfl fun f cdv A outer s H E hr tk hp =>
  (c_seq (c_set 1 sc_read_log.nd (c_lst c_nil))
  (c_seq (c_set 2 sc_read_log.nd c_int)
  (c_seq (c_set 3 sc_read_log.nd c_int)
  (c_seq (c_while hp (c_tcmp o_lt (c_var 3) (c_callB b_len T.n_len bt_len (c_cons (c_var 0) c_nil))) (c_seq (c_asg (c_fn (ok__read_number T) hr tk (c_cons (c_var 0) (c_cons (c_var 3) (c_cons (c_var 2) (c_cons (c_glob T.g_MOST_TICK) c_nil))))) (c_gtup rfl (c_gcons (c_gname 2 sc_read_log.nd) (c_gcons (c_gname 3 sc_read_log.nd) c_gnil))))
  (c_seq (c_set 3 sc_read_log.nd (c_fn (ok__read_char T) hr tk (c_cons (c_var 0) (c_cons (c_var 3) (c_cons (c_str _) c_nil)))))
  (c_seq (c_asg (c_fn (ok__read_word T) hr tk (c_cons (c_var 0) (c_cons (c_var 3) c_nil))) (c_gtup rfl (c_gcons (c_gname 4 sc_read_log.nd) (c_gcons (c_gname 3 sc_read_log.nd) c_gnil))))
  (c_seq (c_set 5 sc_read_log.nd (c_un o_neg c_int))
  (c_seq (c_ifs (c_tcmp o_in (c_var 4) (c_glob T.g_NUMBERED)) (c_seq (c_asg (c_fn (ok__read_number T) hr tk (c_cons (c_var 0) (c_cons (c_var 3) (c_cons c_int (c_cons (c_glob T.g_LAST_NUMBER) c_nil))))) (c_gtup rfl (c_gcons (c_gname 5 sc_read_log.nd) (c_gcons (c_gname 3 sc_read_log.nd) c_gnil))))
  (c_one (c_set 3 sc_read_log.nd (c_fn (ok__read_char T) hr tk (c_cons (c_var 0) (c_cons (c_var 3) (c_cons (c_str _) c_nil))))))) c_snil)
  (c_one (c_expr (c_meth PySem.F.plainAttrs_list PySem.F.slot_list_append PySem.F.type_list_append m_append (c_var 1) (c_cons (c_tup (c_cons (c_var 2) (c_cons (c_var 4) (c_cons (c_var 5) c_nil)))) c_nil))))))))))
  (c_one (c_ret (c_callTy b_tuple T.n_tuple bt_tuple (c_cons (c_var 1) c_nil))))))))
theorem sc__law_bag : FnScope N__law_bag ["script"] (defScope s__law_bag) := ⟨rfl, rfl, rfl, by decide +kernel, rfl, by decide +kernel, by decide +kernel⟩
theorem ok__law_bag (T : Txt K mg) : OkFn P w K mg base 1 "_law_bag" ["script"] fn__law_bag := by
  exact ok_fn (N := N__law_bag) (k := 0) (body := b__law_bag) T.f__law_bag sc__law_bag rfl fun f cdv A outer s H E hr tk hp =>
  (c_seq (c_set 1 sc__law_bag.nd c_int)
  (c_seq (c_for hp rfl (c_iseq (c_sl (c_var 0) c_onone (c_osome c_int))) (c_gname 2 sc__law_bag.nd) (c_one (c_set 1 sc__law_bag.nd (c_bin o_mod (c_callTy b_int T.n_int bt_int (c_cons (c_bin o_add (c_bin o_mul (c_var 1) c_int) (c_var 2)) c_nil)) c_int))))
  (c_one (c_ret (c_lst (c_cons c_int (c_cons c_int (c_cons c_int (c_cons (c_var 1) c_nil)))))))))
theorem sc__law_take : FnScope N__law_take ["bag", "script", "many"] (defScope s__law_take) := ⟨rfl, rfl, rfl, by decide +kernel, rfl, by decide +kernel, by decide +kernel⟩
theorem ok__law_take (T : Txt K mg) : OkFn P w K mg base 1 "_law_take" ["bag", "script", "many"] fn__law_take := by
  exact ok_fn (N := N__law_take) (k := 0) (body := b__law_take) T.f__law_take sc__law_take rfl fun f cdv A outer s H E hr tk hp =>
  (c_seq (c_ifs (c_tw (c_and (c_tcmp (o_eq hr.units) (c_idx (c_var 0) c_int) c_int) (c_and1 (c_tcmp o_lt (c_idx (c_var 0) c_int) (c_callB (b_min2 rfl) T.n_min bt_min (c_cons c_int (c_cons (c_callB b_len T.n_len bt_len (c_cons (c_var 1) c_nil)) c_nil))))))) (c_seq (c_setidx (c_var 0) c_int (c_callB b_abs T.n_abs bt_abs (c_cons (c_idx (c_var 1) (c_idx (c_var 0) c_int)) c_nil)))
  (c_seq (c_setidx (c_var 0) c_int (c_bin o_add (c_idx (c_var 0) c_int) c_int))
  (c_one (c_ifs (c_tcmp (o_eq hr.units) (c_idx (c_var 0) c_int) c_int) (c_one (c_ret c_int)) c_snil)))) c_snil)
  (c_seq (c_ifs (c_tcmp o_gt (c_idx (c_var 0) c_int) c_int) (c_seq (c_set 3 sc__law_take.nd (c_bin o_mod (c_callTy b_int T.n_int bt_int (c_cons (c_idx (c_var 0) c_int) c_nil)) (c_var 2)))
  (c_seq (c_setidx (c_var 0) c_int (c_bin o_div (c_idx (c_var 0) c_int) (c_var 2)))
  (c_one (c_ret (c_var 3))))) c_snil)
  (c_seq (c_setidx (c_var 0) c_int (c_bin o_add (c_idx (c_var 0) c_int) c_int))
  (c_seq (c_set 4 sc__law_take.nd (c_bin o_mod (c_callTy b_int T.n_int bt_int (c_cons (c_bin o_add (c_bin o_mul (c_idx (c_var 0) c_int) c_int) (c_bin o_mul (c_idx (c_var 0) c_int) c_int)) c_nil)) c_int))
  (c_seq (c_set 4 sc__law_take.nd (c_bin o_mod (c_callTy b_int T.n_int bt_int (c_cons (c_bin o_add (c_bin o_mul (c_var 4) (c_var 4)) (c_bin o_mul (c_idx (c_var 0) c_int) c_int)) c_nil)) c_int))
  (c_one (c_ret (c_bin o_mod (c_callTy b_int T.n_int bt_int (c_cons (c_bin o_div (c_var 4) c_int) c_nil)) (c_var 2)))))))))
theorem sc__law_same : FnScope N__law_same ["told", "due"] (defScope s__law_same) := ⟨rfl, rfl, rfl, by decide +kernel, rfl, by decide +kernel, by decide +kernel⟩
theorem ok__law_same (T : Txt K mg) : ∀ n : Nat, OkFn P w K mg base (1 + n) "_law_same" ["told", "due"] (fn__law_same n) := by
  intro n
  induction n with
  | zero => exact ok_fn0 T.f__law_same
  | succ n ih => exact ok_fn (N := N__law_same) (k := 1 + n) (body := b__law_same (fn__law_same n)) T.f__law_same sc__law_same rfl fun f cdv A outer s H E hr tk hp =>
  (c_seq (c_ifs (c_tru (c_callB b_isi T.n_isinstance bt_isinstance (c_cons (c_var 1) (c_cons (c_ty T.n_tuple bt_tuple) c_nil)))) (c_seq (c_ifs (c_tw (c_or (c_tnot (c_tru (c_callB b_isi T.n_isinstance bt_isinstance (c_cons (c_var 0) (c_cons (c_ty T.n_tuple bt_tuple) c_nil))))) (c_or1 (c_tcmp (o_ne hr.units) (c_callB b_len T.n_len bt_len (c_cons (c_var 0) c_nil)) (c_callB b_len T.n_len bt_len (c_cons (c_var 1) c_nil)))))) (c_one (c_ret c_bl)) c_snil)
  (c_seq (c_for hp rfl (c_range1 T.n_range (c_cons (c_callB b_len T.n_len bt_len (c_cons (c_var 1) c_nil)) c_nil)) (c_gname 2 sc__law_same.nd) (c_one (c_ifs (c_tnot (c_tru (c_fn ih hr tk (c_cons (c_idx (c_var 0) (c_var 2)) (c_cons (c_idx (c_var 1) (c_var 2)) c_nil))))) (c_one (c_ret c_bl)) c_snil)))
  (c_one (c_ret c_bl)))) c_snil)
  (c_seq (c_ifs (c_tcmp o_isN (c_var 1) c_non) (c_one (c_ret (c_cmp o_isN (c_var 0) c_non))) c_snil)
  (c_seq (c_ifs (c_tru (c_callB b_isi T.n_isinstance bt_isinstance (c_cons (c_var 1) (c_cons (c_ty T.n_bool bt_bool) c_nil)))) (c_one (c_ret (c_vand (c_callB b_isi T.n_isinstance bt_isinstance (c_cons (c_var 0) (c_cons (c_ty T.n_bool bt_bool) c_nil))) (c_vone (c_cmp (o_eq hr.units) (c_var 0) (c_var 1)))))) c_snil)
  (c_seq (c_ifs (c_tru (c_callB b_isi T.n_isinstance bt_isinstance (c_cons (c_var 1) (c_cons (c_ty T.n_int bt_int) c_nil)))) (c_one (c_ret (c_vand (c_callB b_isi T.n_isinstance bt_isinstance (c_cons (c_var 0) (c_cons (c_ty T.n_int bt_int) c_nil))) (c_vand (c_vnot (c_callB b_isi T.n_isinstance bt_isinstance (c_cons (c_var 0) (c_cons (c_ty T.n_bool bt_bool) c_nil)))) (c_vone (c_cmp (o_eq hr.units) (c_var 0) (c_var 1))))))) c_snil)
  (c_one (c_ret (c_vand (c_callB b_isi T.n_isinstance bt_isinstance (c_cons (c_var 0) (c_cons (c_ty T.n_str bt_str) c_nil))) (c_vone (c_cmp (o_eq hr.units) (c_var 0) (c_var 1))))))))))
theorem sc__law_events : FnScope N__law_events ["bag", "script"] (defScope s__law_events) := ⟨rfl, rfl, rfl, by decide +kernel, rfl, by decide +kernel, by decide +kernel⟩
theorem ok__law_events (T : Txt K mg) : OkFn P w K mg base 2 "_law_events" ["bag", "script"] fn__law_events := by
  exact ok_fn (N := N__law_events) (k := 1) (body := b__law_events) T.f__law_events sc__law_events rfl fun f cdv A outer s H E hr tk hp =>
  (c_seq (c_set 2 sc__law_events.nd (c_lst (c_cons (c_str _) (c_cons (c_str _) (c_cons (c_str _) (c_cons (c_str _) (c_cons (c_str _) (c_cons (c_str _) (c_cons (c_str _) (c_cons (c_str _) c_nil))))))))))
  (c_seq (c_set 3 sc__law_events.nd (c_bin o_add c_int (c_fn (ok__law_take T) hr tk (c_cons (c_var 0) (c_cons (c_var 1) (c_cons c_int c_nil))))))
  (c_seq (c_set 4 sc__law_events.nd (c_lst c_nil))
  (c_seq (c_set 5 sc__law_events.nd (c_fn (ok__law_take T) hr tk (c_cons (c_var 0) (c_cons (c_var 1) (c_cons c_int c_nil)))))
  (c_seq (c_for hp rfl (c_range1 T.n_range (c_cons (c_bin o_add c_int (c_fn (ok__law_take T) hr tk (c_cons (c_var 0) (c_cons (c_var 1) (c_cons c_int c_nil))))) c_nil)) (c_gname 6 sc__law_events.nd) (c_seq (c_set 5 sc__law_events.nd (c_callB (b_min2 rfl) T.n_min bt_min (c_cons c_int (c_cons (c_bin o_add (c_var 5) (c_fn (ok__law_take T) hr tk (c_cons (c_var 0) (c_cons (c_var 1) (c_cons (c_var 3) c_nil))))) c_nil))))
  (c_seq (c_set 7 sc__law_events.nd (c_idx (c_var 2) (c_fn (ok__law_take T) hr tk (c_cons (c_var 0) (c_cons (c_var 1) (c_cons c_int c_nil))))))
  (c_seq (c_set 8 sc__law_events.nd (c_un o_neg c_int))
  (c_seq (c_ifs (c_tw (c_and (c_tcmp (o_ne hr.units) (c_var 7) (c_str _)) (c_and1 (c_tcmp (o_ne hr.units) (c_var 7) (c_str _))))) (c_one (c_set 8 sc__law_events.nd (c_fn (ok__law_take T) hr tk (c_cons (c_var 0) (c_cons (c_var 1) (c_cons c_int c_nil)))))) c_snil)
  (c_one (c_expr (c_meth PySem.F.plainAttrs_list PySem.F.slot_list_append PySem.F.type_list_append m_append (c_var 4) (c_cons (c_tup (c_cons (c_var 5) (c_cons (c_var 7) (c_cons (c_var 8) c_nil)))) c_nil)))))))))
  (c_one (c_ret (c_var 4))))))))
theorem sc__law_line : FnScope N__law_line ["event"] (defScope s__law_line) := ⟨rfl, rfl, rfl, by decide +kernel, rfl, by decide +kernel, by decide +kernel⟩
theorem ok__law_line (T : Txt K mg) : OkFn P w K mg base 1 "_law_line" ["event"] fn__law_line := by
  exact ok_fn (N := N__law_line) (k := 0) (body := b__law_line) T.f__law_line sc__law_line rfl fun f cdv A outer s H E hr tk hp =>
  (c_seq (c_ifs (c_tcmp o_lt (c_idx (c_var 0) c_int) c_int) (c_one (c_ret (c_bin o_add (c_bin o_add (c_bin o_add (c_callTy b_str T.n_str bt_str (c_cons (c_idx (c_var 0) c_int) c_nil)) (c_str _)) (c_idx (c_var 0) c_int)) (c_str _)))) c_snil)
  (c_one (c_ret (c_bin o_add (c_bin o_add (c_bin o_add (c_bin o_add (c_bin o_add (c_callTy b_str T.n_str bt_str (c_cons (c_idx (c_var 0) c_int) c_nil)) (c_str _)) (c_idx (c_var 0) c_int)) (c_str _)) (c_callTy b_str T.n_str bt_str (c_cons (c_idx (c_var 0) c_int) c_nil))) (c_str _)))))
theorem sc__law_sign : FnScope N__law_sign ["bag", "script"] (defScope s__law_sign) := ⟨rfl, rfl, rfl, by decide +kernel, rfl, by decide +kernel, by decide +kernel⟩
theorem ok__law_sign (T : Txt K mg) : OkFn P w K mg base 2 "_law_sign" ["bag", "script"] fn__law_sign := by
  exact ok_fn (N := N__law_sign) (k := 1) (body := b__law_sign) T.f__law_sign sc__law_sign rfl fun f cdv A outer s H E hr tk hp =>
  (c_seq (c_set 2 sc__law_sign.nd (c_str _))
  (c_seq (c_ifs (c_tcmp (o_eq hr.units) (c_fn (ok__law_take T) hr tk (c_cons (c_var 0) (c_cons (c_var 1) (c_cons c_int c_nil)))) c_int) (c_one (c_set 2 sc__law_sign.nd (c_str _))) c_snil)
  (c_one (c_ret (c_idx (c_var 2) (c_fn (ok__law_take T) hr tk (c_cons (c_var 0) (c_cons (c_var 1) (c_cons (c_callB b_len T.n_len bt_len (c_cons (c_var 2) c_nil)) c_nil)))))))))
theorem sc__law_changed : FnScope N__law_changed ["bag", "script", "text", "place"] (defScope s__law_changed) := ⟨rfl, rfl, rfl, by decide +kernel, rfl, by decide +kernel, by decide +kernel⟩
theorem ok__law_changed (T : Txt K mg) : OkFn P w K mg base 3 "_law_changed" ["bag", "script", "text", "place"] fn__law_changed := by
  exact ok_fn (N := N__law_changed) (k := 2) (body := b__law_changed) T.f__law_changed sc__law_changed rfl fun f cdv A outer s H E hr tk hp =>
  (c_seq (c_set 4 sc__law_changed.nd (c_fn (ok__law_take T) hr tk (c_cons (c_var 0) (c_cons (c_var 1) (c_cons c_int c_nil)))))
  (c_seq (c_set 5 sc__law_changed.nd (c_fn (ok__law_sign T) hr tk (c_cons (c_var 0) (c_cons (c_var 1) c_nil))))
  (c_seq (c_ifs (c_tcmp (o_eq hr.units) (c_var 4) c_int) (c_one (c_ret (c_bin o_add (c_bin o_add (c_sl (c_var 2) c_onone (c_osome (c_var 3))) (c_var 5)) (c_sl (c_var 2) (c_osome (c_bin o_add (c_var 3) c_int)) c_onone)))) c_snil)
  (c_seq (c_ifs (c_tcmp (o_eq hr.units) (c_var 4) c_int) (c_one (c_ret (c_bin o_add (c_bin o_add (c_sl (c_var 2) c_onone (c_osome (c_var 3))) (c_var 5)) (c_sl (c_var 2) (c_osome (c_var 3)) c_onone)))) c_snil)
  (c_seq (c_ifs (c_tcmp (o_eq hr.units) (c_var 4) c_int) (c_one (c_ret (c_bin o_add (c_sl (c_var 2) c_onone (c_osome (c_var 3))) (c_sl (c_var 2) (c_osome (c_bin o_add (c_var 3) c_int)) c_onone)))) c_snil)
  (c_one (c_ret (c_sl (c_var 2) c_onone (c_osome (c_var 3))))))))))
theorem sc__law_stage : FnScope N__law_stage ["part", "at", "wanted"] (defScope s__law_stage) := ⟨rfl, rfl, rfl, by decide +kernel, rfl, by decide +kernel, by decide +kernel⟩
theorem ok__law_stage (T : Txt K mg) : OkFn P w K mg base 1 "_law_stage" ["part", "at", "wanted"] fn__law_stage := by
  exact ok_fn (N := N__law_stage) (k := 0) (body := b__law_stage) T.f__law_stage sc__law_stage rfl fun f cdv A outer s H E hr tk hp =>
  (c_seq (c_set 3 sc__law_stage.nd c_int)
  (c_seq (c_for hp rfl (c_range1 T.n_range (c_cons (c_callB b_len T.n_len bt_len (c_cons (c_var 2) c_nil)) c_nil)) (c_gname 4 sc__law_stage.nd) (c_seq (c_set 5 sc__law_stage.nd c_int)
  (c_seq (c_for hp rfl (c_iseq (c_idx (c_var 2) (c_var 4))) (c_gname 6 sc__law_stage.nd) (c_seq (c_ifs (c_tcmp (o_ne hr.units) (c_sl (c_var 0) (c_osome (c_bin o_add (c_var 1) (c_var 5))) (c_osome (c_bin o_add (c_bin o_add (c_var 1) (c_var 5)) c_int))) (c_var 6)) (c_one c_break) c_snil)
  (c_one (c_set 5 sc__law_stage.nd (c_bin o_add (c_var 5) c_int)))))
  (c_seq (c_ifs (c_tcmp (o_eq hr.units) (c_var 5) (c_callB b_len T.n_len bt_len (c_cons (c_idx (c_var 2) (c_var 4)) c_nil))) (c_one (c_ret (c_tup (c_cons (c_var 4) (c_cons (c_bin o_add (c_var 1) (c_var 5)) c_nil))))) c_snil)
  (c_one (c_set 3 sc__law_stage.nd (c_callB (b_max2 rfl) T.n_max bt_max (c_cons (c_var 3) (c_cons (c_var 5) c_nil)))))))))
  (c_one (c_ret (c_tup (c_cons (c_un o_neg c_int) (c_cons (c_bin o_add (c_var 1) (c_var 3)) c_nil)))))))
theorem sc__law_read_line : FnScope N__law_read_line ["part", "low"] (defScope s__law_read_line) := ⟨rfl, rfl, rfl, by decide +kernel, rfl, by decide +kernel, by decide +kernel⟩
theorem ok__law_read_line (T : Txt K mg) : OkFn P w K mg base 2 "_law_read_line" ["part", "low"] fn__law_read_line := by
  exact ok_fn (N := N__law_read_line) (k := 1) (body := b__law_read_line) T.f__law_read_line sc__law_read_line rfl fun f cdv A outer s H E hr tk hp =>
  (c_seq (c_set 2 sc__law_read_line.nd (c_lst (c_cons (c_str _) (c_cons (c_str _) (c_cons (c_str _) (c_cons (c_str _) (c_cons (c_str _) (c_cons (c_str _) (c_cons (c_str _) (c_cons (c_str _) c_nil))))))))))
  (c_seq (c_set 3 sc__law_read_line.nd (c_fn (ok__law_stage T) hr tk (c_cons (c_var 0) (c_cons c_int (c_cons (c_lc [("tick", 4)] rfl sc__law_read_line.nd (c_range2 T.n_range (c_cons (c_var 1) (c_cons c_int c_nil))) (blkOk_by (N := N__law_read_line) (sc := defScope s__law_read_line) (by decide +kernel)) (fun _ _ _ _ _ => (c_gname 4 sc__law_read_line.nd)) (fun _ _ _ _ _ => c_tsnil) (fun _ _ _ _ _ => (c_bin o_add (c_callTy b_str T.n_str bt_str (c_cons (c_var 4) c_nil)) (c_str _)))) c_nil)))))
  (c_seq (c_ifs (c_tcmp o_lt (c_idx (c_var 3) c_int) c_int) (c_one (c_ret (c_tup (c_cons c_non (c_cons (c_idx (c_var 3) c_int) c_nil))))) c_snil)
  (c_seq (c_set 5 sc__law_read_line.nd (c_fn (ok__law_stage T) hr tk (c_cons (c_var 0) (c_cons (c_idx (c_var 3) c_int) (c_cons (c_var 2) c_nil)))))
  (c_seq (c_ifs (c_tcmp o_lt (c_idx (c_var 5) c_int) c_int) (c_one (c_ret (c_tup (c_cons c_non (c_cons (c_idx (c_var 5) c_int) c_nil))))) c_snil)
  (c_seq (c_set 6 sc__law_read_line.nd (c_idx (c_var 2) (c_idx (c_var 5) c_int)))
  (c_seq (c_ifs (c_tcmp o_gt (c_idx (c_var 5) c_int) c_int) (c_one (c_ret (c_tup (c_cons (c_tup (c_cons (c_bin o_add (c_var 1) (c_idx (c_var 3) c_int)) (c_cons (c_sl (c_var 6) c_onone (c_osome (c_bin o_sub (c_callB b_len T.n_len bt_len (c_cons (c_var 6) c_nil)) c_int))) (c_cons (c_un o_neg c_int) c_nil)))) (c_cons (c_idx (c_var 5) c_int) c_nil))))) c_snil)
  (c_seq (c_set 7 sc__law_read_line.nd (c_fn (ok__law_stage T) hr tk (c_cons (c_var 0) (c_cons (c_idx (c_var 5) c_int) (c_cons (c_lc [("number", 8)] rfl sc__law_read_line.nd (c_range1 T.n_range (c_cons c_int c_nil)) (blkOk_by (N := N__law_read_line) (sc := defScope s__law_read_line) (by decide +kernel)) (fun _ _ _ _ _ => (c_gname 8 sc__law_read_line.nd)) (fun _ _ _ _ _ => c_tsnil) (fun _ _ _ _ _ => (c_bin o_add (c_callTy b_str T.n_str bt_str (c_cons (c_var 8) c_nil)) (c_str _)))) c_nil)))))
  (c_seq (c_ifs (c_tcmp o_lt (c_idx (c_var 7) c_int) c_int) (c_one (c_ret (c_tup (c_cons c_non (c_cons (c_idx (c_var 7) c_int) c_nil))))) c_snil)
  (c_one (c_ret (c_tup (c_cons (c_tup (c_cons (c_bin o_add (c_var 1) (c_idx (c_var 3) c_int)) (c_cons (c_sl (c_var 6) c_onone (c_osome (c_bin o_sub (c_callB b_len T.n_len bt_len (c_cons (c_var 6) c_nil)) c_int))) (c_cons (c_idx (c_var 7) c_int) c_nil)))) (c_cons (c_idx (c_var 7) c_int) c_nil))))))))))))))
theorem sc__law_due : FnScope N__law_due ["events", "lines", "text", "place"] (defScope s__law_due) := ⟨rfl, rfl, rfl, by decide +kernel, rfl, by decide +kernel, by decide +kernel⟩
theorem ok__law_due (T : Txt K mg) : OkFn P w K mg base 3 "_law_due" ["events", "lines", "text", "place"] fn__law_due := by
  exact ok_fn (N := N__law_due) (k := 2) (body := b__law_due) T.f__law_due sc__law_due rfl fun f cdv A outer s H E hr tk hp =>
  (c_seq (c_set 4 sc__law_due.nd c_int)
  (c_seq (c_set 5 sc__law_due.nd c_int)
  (c_seq (c_for hp rfl (c_range1 T.n_range (c_cons (c_callB b_len T.n_len bt_len (c_cons (c_var 1) c_nil)) c_nil)) (c_gname 6 sc__law_due.nd) (c_one (c_ifs (c_tcmp o_le (c_bin o_add (c_var 5) (c_callB b_len T.n_len bt_len (c_cons (c_idx (c_var 1) (c_var 4)) c_nil))) (c_var 3)) (c_seq (c_set 5 sc__law_due.nd (c_bin o_add (c_var 5) (c_callB b_len T.n_len bt_len (c_cons (c_idx (c_var 1) (c_var 4)) c_nil))))
  (c_one (c_set 4 sc__law_due.nd (c_bin o_add (c_var 4) c_int)))) (c_one c_break))))
  (c_seq (c_set 7 sc__law_due.nd (c_sl (c_var 0) c_onone (c_osome (c_var 4))))
  (c_seq (c_set 8 sc__law_due.nd c_int)
  (c_seq (c_ifs (c_tcmp o_gt (c_var 4) c_int) (c_one (c_set 8 sc__law_due.nd (c_idx (c_idx (c_var 0) (c_bin o_sub (c_var 4) c_int)) c_int))) c_snil)
  (c_seq (c_for hp rfl (c_range1 T.n_range (c_cons c_int c_nil)) (c_gname 6 sc__law_due.nd) (c_one (c_ifs (c_tcmp o_lt (c_var 5) (c_callB b_len T.n_len bt_len (c_cons (c_var 2) c_nil))) (c_seq (c_set 9 sc__law_due.nd (c_fn (ok__law_read_line T) hr tk (c_cons (c_sl (c_var 2) (c_osome (c_var 5)) (c_osome (c_bin o_add (c_var 5) c_int))) (c_cons (c_var 8) c_nil))))
  (c_seq (c_ifs (c_tcmp o_isN (c_idx (c_var 9) c_int) c_non) (c_one (c_ret (c_tup (c_cons c_non (c_cons (c_bin o_add (c_callB b_len T.n_len bt_len (c_cons (c_var 7) c_nil)) c_int) (c_cons (c_bin o_add (c_idx (c_var 9) c_int) c_int) c_nil)))))) c_snil)
  (c_seq (c_set 7 sc__law_due.nd (c_bin o_add (c_var 7) (c_lst (c_cons (c_idx (c_var 9) c_int) c_nil))))
  (c_seq (c_set 8 sc__law_due.nd (c_idx (c_idx (c_var 9) c_int) c_int))
  (c_one (c_set 5 sc__law_due.nd (c_bin o_add (c_var 5) (c_idx (c_var 9) c_int)))))))) c_snil)))
  (c_seq (c_set 10 sc__law_due.nd (c_meth PySem.F.plainAttrs_str PySem.F.slot_str_count PySem.F.type_str_count m_count (c_sl (c_var 2) (c_osome (c_var 5)) c_onone) (c_cons (c_str _) c_nil)))
  (c_one (c_ret (c_tup (c_cons (c_callTy b_tuple T.n_tuple bt_tuple (c_cons (c_bin o_add (c_var 7) (c_sl (c_var 0) (c_osome (c_bin o_sub (c_callB b_len T.n_len bt_len (c_cons (c_var 0) c_nil)) (c_var 10))) c_onone)) c_nil)) (c_cons c_int (c_cons c_int c_nil))))))))))))))
theorem sc__law_told : FnScope N__law_told ["text"] (defScope s__law_told) := ⟨rfl, rfl, rfl, by decide +kernel, rfl, by decide +kernel, by decide +kernel⟩
theorem ok__law_told (T : Txt K mg) : OkFn P w K mg base 6 "_law_told" ["text"] fn__law_told := by
  obtain ⟨C_BadLine, _, _, hX_BadLine, _, hXf_BadLine, hXn_BadLine, _⟩ := T.e_BadLine.ex
  exact ok_fn (N := N__law_told) (k := 5) (body := b__law_told) T.f__law_told sc__law_told rfl fun f cdv A outer s H E hr tk hp =>
  (c_one (c_tryret (i := 1) rfl rfl sc__law_told.nd tk hX_BadLine (T.x_BadLine _ hX_BadLine) (fun W2 pn2 xe2 tk2 hp2 => (c_one (c_ret (c_tup (c_cons (c_fn (ok_read_log T) hr tk2 (c_cons (c_var 0) c_nil)) (c_cons c_int (c_cons c_int c_nil))))))) (fun a oe cls d pn hz hf => (c_xtup (c_xacons c_xnon (c_xacons (c_xf hXf_BadLine (hXn_BadLine _ (by decide +kernel)) hz hf) (c_xacons (c_xf hXf_BadLine (hXn_BadLine _ (by decide +kernel)) hz hf) c_xanil)))))))
theorem sc__law_refused : FnScope N__law_refused ["row", "is_written"] (defScope s__law_refused) := ⟨rfl, rfl, rfl, by decide +kernel, rfl, by decide +kernel, by decide +kernel⟩
theorem ok__law_refused (T : Txt K mg) : OkFn P w K mg base 6 "_law_refused" ["row", "is_written"] fn__law_refused := by
  obtain ⟨C_BadBook, _, _, hX_BadBook, _, hXf_BadBook, hXn_BadBook, _⟩ := T.e_BadBook.ex
  exact ok_fn (N := N__law_refused) (k := 5) (body := b__law_refused) T.f__law_refused sc__law_refused rfl fun f cdv A outer s H E hr tk hp =>
  (c_seq (c_tryret (i := 2) rfl rfl sc__law_refused.nd tk hX_BadBook (T.x_BadBook _ hX_BadBook) (fun W2 pn2 xe2 tk2 hp2 => (c_one (c_ifs (c_tru (c_var 1)) (c_one (c_expr (c_fn (ok_write_log T) hr tk2 (c_cons (c_var 0) c_nil)))) (c_one (c_expr (c_fn (ok_check_log T) hr tk2 (c_cons (c_var 0) c_nil))))))) (fun a oe cls d pn hz hf => (c_xf hXf_BadBook (hXn_BadBook _ (by decide +kernel)) hz hf)))
  (c_one (c_ret (c_un o_neg c_int))))
theorem sc_law : FnScope N_law ["script"] (defScope s_law) := ⟨rfl, rfl, rfl, by decide +kernel, rfl, by decide +kernel, by decide +kernel⟩
theorem ok_law (T : Txt K mg) : OkFn P w K mg base 8 "law" ["script"] fn_law := by
  exact ok_fn (N := N_law) (k := 7) (body := b_law) T.f_law sc_law rfl fun f cdv A outer s H E hr tk hp =>
  (c_seq (c_set 1 sc_law.nd (c_fn (ok__law_bag T) hr tk (c_cons (c_var 0) c_nil)))
  (c_seq (c_set 2 sc_law.nd (c_fn (ok__law_events T) hr tk (c_cons (c_var 1) (c_cons (c_var 0) c_nil))))
  (c_seq (c_setlc 3 [("event", 4)] rfl sc_law.nd (c_iseq (c_var 2)) (blkOk_by (N := N_law) (sc := defScope s_law) (by decide +kernel)) (fun _ _ _ _ _ => (c_gname 4 sc_law.nd)) (fun _ _ _ _ _ => c_tsnil) (fun _ _ _ _ _ => (c_fn (ok__law_line T) hr takes0 (c_cons (c_var 4) c_nil))) (sw_true rfl rfl rfl (by decide +kernel)))
  (c_seq (c_set 5 sc_law.nd (c_meth PySem.F.plainAttrs_str PySem.F.slot_str_join PySem.F.type_str_join m_join (c_str _) (c_cons (c_var 3) c_nil)))
  (c_seq (c_set 6 sc_law.nd (c_callTy b_tuple T.n_tuple bt_tuple (c_cons (c_var 2) c_nil)))
  (c_seq (c_ifs (c_tw (c_or (c_tnot (c_tru (c_fn (ok__law_same T 6) hr tk (c_cons (c_fn (ok_write_log T) hr tk (c_cons (c_var 6) c_nil)) (c_cons (c_var 5) c_nil))))) (c_or1 (c_tnot (c_tru (c_fn (ok__law_same T 6) hr tk (c_cons (c_fn (ok_read_log T) hr tk (c_cons (c_var 5) c_nil)) (c_cons (c_var 6) c_nil)))))))) (c_one (c_ret c_bl)) c_snil)
  (c_seq (c_ifs (c_tcmp o_notN (c_fn (ok_check_log T) hr tk (c_cons (c_var 6) c_nil)) c_non) (c_one (c_ret c_bl)) c_snil)
  (c_seq (c_for hp rfl (c_range1 T.n_range (c_cons c_int c_nil)) (c_gname 7 sc_law.nd) (c_seq (c_set 8 sc_law.nd (c_fn (ok__law_take T) hr tk (c_cons (c_var 1) (c_cons (c_var 0) (c_cons (c_bin o_add (c_callB b_len T.n_len bt_len (c_cons (c_var 5) c_nil)) c_int) c_nil)))))
  (c_seq (c_set 9 sc_law.nd (c_fn (ok__law_changed T) hr tk (c_cons (c_var 1) (c_cons (c_var 0) (c_cons (c_var 5) (c_cons (c_var 8) c_nil))))))
  (c_one (c_ifs (c_tnot (c_tru (c_fn (ok__law_same T 6) hr tk (c_cons (c_fn (ok__law_told T) hr tk (c_cons (c_var 9) c_nil)) (c_cons (c_fn (ok__law_due T) hr tk (c_cons (c_var 2) (c_cons (c_var 3) (c_cons (c_var 9) (c_cons (c_var 8) c_nil))))) c_nil))))) (c_one (c_ret c_bl)) c_snil)))))
  (c_seq (c_set 10 sc_law.nd (c_fn (ok__law_take T) hr tk (c_cons (c_var 1) (c_cons (c_var 0) (c_cons (c_callB b_len T.n_len bt_len (c_cons (c_var 2) c_nil)) c_nil)))))
  (c_seq (c_set 11 sc_law.nd (c_lst (c_cons (c_tup (c_cons c_int (c_cons (c_str _) (c_cons c_int c_nil)))) (c_cons (c_tup (c_cons c_int (c_cons (c_str _) (c_cons c_int c_nil)))) (c_cons (c_tup (c_cons c_int (c_cons (c_str _) (c_cons c_int c_nil)))) (c_cons (c_tup (c_cons c_int (c_cons (c_str _) (c_cons c_int c_nil)))) (c_cons (c_tup (c_cons c_int (c_cons (c_str _) c_nil))) (c_cons c_non (c_cons (c_tup (c_cons c_bl (c_cons (c_str _) (c_cons c_int c_nil)))) c_nil)))))))))
  (c_seq (c_set 11 sc_law.nd (c_bin o_add (c_var 11) (c_lst (c_cons (c_tup (c_cons c_int (c_cons (c_str _) (c_cons c_bl c_nil)))) (c_cons (c_tup (c_cons c_int (c_cons (c_str _) (c_cons c_int c_nil)))) (c_cons (c_tup (c_cons c_int (c_cons (c_str _) (c_cons (c_un o_neg c_int) c_nil)))) (c_cons c_int c_nil)))))))
  (c_seq (c_ifs (c_tw (c_and (c_tcmp o_gt (c_var 10) c_int) (c_and1 (c_tcmp o_gt (c_idx (c_idx (c_var 2) (c_bin o_sub (c_var 10) c_int)) c_int) c_int)))) (c_one (c_set 11 sc_law.nd (c_bin o_add (c_var 11) (c_bin o_mul (c_lst (c_cons (c_tup (c_cons (c_bin o_sub (c_idx (c_idx (c_var 2) (c_bin o_sub (c_var 10) c_int)) c_int) c_int) (c_cons (c_str _) (c_cons c_int c_nil)))) c_nil)) c_int)))) c_snil)
  (c_seq (c_set 12 sc_law.nd (c_bin o_add (c_bin o_add (c_sl (c_var 6) c_onone (c_osome (c_var 10))) (c_tup (c_cons (c_idx (c_var 11) (c_fn (ok__law_take T) hr tk (c_cons (c_var 1) (c_cons (c_var 0) (c_cons (c_callB b_len T.n_len bt_len (c_cons (c_var 11) c_nil)) c_nil))))) c_nil))) (c_sl (c_var 6) (c_osome (c_bin o_add (c_var 10) c_int)) c_onone)))
  (c_one (c_ret (c_vand (c_fn (ok__law_same T 6) hr tk (c_cons (c_fn (ok__law_refused T) hr tk (c_cons (c_var 12) (c_cons c_bl c_nil))) (c_cons (c_var 10) c_nil))) (c_vone (c_fn (ok__law_same T 6) hr tk (c_cons (c_fn (ok__law_refused T) hr tk (c_cons (c_var 12) (c_cons c_bl c_nil))) (c_cons (c_var 10) c_nil))))))))))))))))))))
end
end T75
set_option Elab.async false
set_option linter.all false
set_option maxRecDepth 100000
set_option maxHeartbeats 4000000
namespace T75
open PySem PySem.Spec PyProof.Rows L2 Py
theorem take_ok {ns : List Int} {h : HH} {b s : Nat} {many : Int} (B : Bag b h) (hs : h[s]? = some (.scr (ns.map D.int))) (hn : b ≠ s) (m0 : 0 < many) (m1 : many < 1073741824) :
    ∃ (r : Int) (h' : HH), 0 ≤ r ∧ r < many ∧ Bag b h' ∧ Ext b h h' ∧ h'.length = h.length ∧ fn__law_take [.ref b, .ref s, .int many] h = .ok (.int r) h' := by
  obtain ⟨b0, b1, b2, b3, h0, h1, e⟩ := B
  have eb := lstOf_lst e
  have eb' := itemsL_lst e
  have es := itemsL_scr hs
  have ix0 : ∀ x0 x1 x2 x3 : D, L2.atI [x0, x1, x2, x3] 0 = some x0 := fun _ _ _ _ => rfl
  have ix1 : ∀ x0 x1 x2 x3 : D, L2.atI [x0, x1, x2, x3] 1 = some x1 := fun _ _ _ _ => rfl
  have ix2 : ∀ x0 x1 x2 x3 : D, L2.atI [x0, x1, x2, x3] 2 = some x2 := fun _ _ _ _ => rfl
  have ix3 : ∀ x0 x1 x2 x3 : D, L2.atI [x0, x1, x2, x3] 3 = some x3 := fun _ _ _ _ => rfl
  have jx0 : ixN 4 0 = some 0 := rfl
  have jx1 : ixN 4 1 = some 1 := rfl
  have jx2 : ixN 4 2 = some 2 := rfl
  have g1 : ∀ (h : HH) (x y : Cell), h[b]? = some x → lstOf (h.set b (.lst [.int 0])) b = some [.int 0] := fun h x y q => lstOf_lst (get_set_same q)
  have gs : ∀ (c : List D), itemsL (h.set b (.lst c)) b = some c := fun c => itemsL_lst (get_set_same e)
  have gs' : ∀ (c : List D), lstOf (h.set b (.lst c)) b = some c := fun c => lstOf_lst (get_set_same e)
  have gz : ∀ (c : List D), itemsL (h.set b (.lst c)) s = some (ns.map D.int) := fun c => itemsL_scr (Ext.get (b := b) .set (Ne.symm hn) hs)
  unfold fn__law_take b__law_take
  have nm : ¬ many = 0 := by omega
  have dm : many ≠ 0 ∧ many.natAbs < 1073741824 := by omega
  have c1 : CMul b3 69621 := .inr (by decide)
  have c2 : CMul b2 48271 := .inr (by decide)
  have c2' : CMul (b2 + 1) 48271 := .inr (by decide)
  have c3 : CMul (b2 + 1) 30011 := .inr (by decide)
  have n1 : (2147483629 : Int) ≠ 0 := by decide
  have n2 : (998244353 : Int) ≠ 0 := by decide
  have n3 : (7 : Int) ≠ 0 ∧ (7 : Int).natAbs < 1073741824 := by decide
  have c4 : ∀ x : Int, CMul (x.fmod 2147483629) (x.fmod 2147483629) := fun x => .inl (by
    have := Int.fmod_nonneg_of_pos x (b := 2147483629) (by decide)
    have := Int.fmod_lt_of_pos x (b := 2147483629) (by decide)
    omega)
  have mn : ∀ x : Int, 0 ≤ x.fmod many ∧ x.fmod many < many := fun x => ⟨Int.fmod_nonneg_of_pos x m0, Int.fmod_lt_of_pos x m0⟩
  have tail : ∀ b0 b1 b2 b3 : Int, 0 ≤ b0 → 0 ≤ b1 → h[b]? = some (.lst [.int b0, .int b1, .int b2, .int b3]) → b0 = 0 → True := fun _ _ _ _ _ _ _ _ => trivial
  by_cases q0 : b0 = 0
  · by_cases q1 : b1 < (if (ns.length : Int) < 63 then (ns.length : Int) else 63)
    · have l1 : b1.toNat < ns.length := by split at q1 <;> omega
      have ex : L2.atI (ns.map D.int) b1 = some (.int ns[b1.toNat]) := atI_at h1 (by rw [List.getElem?_map, List.getElem?_eq_getElem l1]; rfl)
      by_cases q2 : (if ns[b1.toNat] < 0 then -ns[b1.toNat] else ns[b1.toNat]) = 0
      · refine ⟨0, _, Int.le_refl _, m0, ?_, ?_, ?_, by simp only [mkFn, sSeq, sNil, sBrk, sCnt, bindS, sExpr, sRet, sRetN, sIf, sSet, sSetIdx, sAug, sAsg, tgName, tgTup, tgSeq, R.bind, R.of, eVar, eC, eBin, eUn, eChain, tBool, tTru, truth, tNot', tAnd', tOr', tYes', eAnd, eOr, eNot, eIf, aNil, aCons, eTup, eLst, eCallB, eCall, eSl, oNone, oSome, pSl, pAdd, pSub, pMul_ok, pDiv, pMod, pNeg, pIAdd, pCmp, pEq, pNe, eqD, pIsN, pNotN, isNon, pIn, pNotIn, inD, pIdx, pLen, lenD, pAbs, pMax2, pMin2, pInt, pStr, pTuple, pList, pIsi, isiD, eMeth, tyD, pAppend, pCount, pRfind, pSIndex, pJoin, seqOf, Option.map_some, Option.map_none, Option.bind_some, Option.bind_none, Option.bind_eq_bind, Option.pure_def, List.getElem?_cons_zero, List.getElem?_cons_succ, List.getElem?_nil, List.set_cons_zero, List.set_cons_succ, List.set_nil, List.map_cons, List.map_nil, List.cons_append, List.nil_append, List.length_cons, List.length_nil, List.length_map, reduceIte, Bool.not_true, Bool.not_false, Bool.false_eq_true, decide_true, decide_false, Bool.and_true, Bool.true_and, beq_self_eq_true, Nat.zero_add, Option.isSome_some, sizeLine_v, Nat.reduceAdd, Int.cast_ofNat_Int, Int.natCast_zero, Int.natCast_one, Int.reduceEq, Int.reduceLT, Int.reduceLE, Int.reduceNeg, Int.reduceAdd, Int.reduceMul, Int.reduceSub, Nat.reduceEqDiff, Nat.reduceLT, Nat.reduceLeDiff, sFor, iSeq, srcOf, iSrc, pRange1, pRange2, iEnum', srcEn, eb, eb', es, ix0, ix1, ix2, ix3, jx0, jx1, jx2, gs, gs', gz, q0, q1, ex, q2, List.set_set]; rfl⟩
        · exact ⟨_, _, _, _, Int.le_refl 0, by omega, get_set_same e⟩
        · exact .set
        · simp
      · have q3 : (0 : Int) < (if ns[b1.toNat] < 0 then -ns[b1.toNat] else ns[b1.toNat]) := by split <;> omega
        refine ⟨(if ns[b1.toNat] < 0 then -ns[b1.toNat] else ns[b1.toNat]).fmod many, _, (mn _).1, (mn _).2, ?_, ?_, ?_, by simp only [mkFn, sSeq, sNil, sBrk, sCnt, bindS, sExpr, sRet, sRetN, sIf, sSet, sSetIdx, sAug, sAsg, tgName, tgTup, tgSeq, R.bind, R.of, eVar, eC, eBin, eUn, eChain, tBool, tTru, truth, tNot', tAnd', tOr', tYes', eAnd, eOr, eNot, eIf, aNil, aCons, eTup, eLst, eCallB, eCall, eSl, oNone, oSome, pSl, pAdd, pSub, pMul_ok, pDiv, pMod, pNeg, pIAdd, pCmp, pEq, pNe, eqD, pIsN, pNotN, isNon, pIn, pNotIn, inD, pIdx, pLen, lenD, pAbs, pMax2, pMin2, pInt, pStr, pTuple, pList, pIsi, isiD, eMeth, tyD, pAppend, pCount, pRfind, pSIndex, pJoin, seqOf, Option.map_some, Option.map_none, Option.bind_some, Option.bind_none, Option.bind_eq_bind, Option.pure_def, List.getElem?_cons_zero, List.getElem?_cons_succ, List.getElem?_nil, List.set_cons_zero, List.set_cons_succ, List.set_nil, List.map_cons, List.map_nil, List.cons_append, List.nil_append, List.length_cons, List.length_nil, List.length_map, reduceIte, Bool.not_true, Bool.not_false, Bool.false_eq_true, decide_true, decide_false, Bool.and_true, Bool.true_and, beq_self_eq_true, Nat.zero_add, Option.isSome_some, sizeLine_v, Nat.reduceAdd, Int.cast_ofNat_Int, Int.natCast_zero, Int.natCast_one, Int.reduceEq, Int.reduceLT, Int.reduceLE, Int.reduceNeg, Int.reduceAdd, Int.reduceMul, Int.reduceSub, Nat.reduceEqDiff, Nat.reduceLT, Nat.reduceLeDiff, sFor, iSeq, srcOf, iSrc, pRange1, pRange2, iEnum', srcEn, eb, eb', es, ix0, ix1, ix2, ix3, jx0, jx1, jx2, gs, gs', gz, q0, q1, ex, q2, q3, nm, dm, List.set_set, ne_eq, not_false_eq_true, true_and, and_self]; rfl⟩
        · exact ⟨_, _, _, _, Int.fdiv_nonneg (Int.le_of_lt q3) (Int.le_of_lt m0), by omega, get_set_same e⟩
        · exact .set
        · simp
    · refine ⟨_, _, (mn _).1, (mn _).2, ?_, ?_, ?_, by simp only [mkFn, sSeq, sNil, sBrk, sCnt, bindS, sExpr, sRet, sRetN, sIf, sSet, sSetIdx, sAug, sAsg, tgName, tgTup, tgSeq, R.bind, R.of, eVar, eC, eBin, eUn, eChain, tBool, tTru, truth, tNot', tAnd', tOr', tYes', eAnd, eOr, eNot, eIf, aNil, aCons, eTup, eLst, eCallB, eCall, eSl, oNone, oSome, pSl, pAdd, pSub, pMul_ok, pDiv, pMod, pNeg, pIAdd, pCmp, pEq, pNe, eqD, pIsN, pNotN, isNon, pIn, pNotIn, inD, pIdx, pLen, lenD, pAbs, pMax2, pMin2, pInt, pStr, pTuple, pList, pIsi, isiD, eMeth, tyD, pAppend, pCount, pRfind, pSIndex, pJoin, seqOf, Option.map_some, Option.map_none, Option.bind_some, Option.bind_none, Option.bind_eq_bind, Option.pure_def, List.getElem?_cons_zero, List.getElem?_cons_succ, List.getElem?_nil, List.set_cons_zero, List.set_cons_succ, List.set_nil, List.map_cons, List.map_nil, List.cons_append, List.nil_append, List.length_cons, List.length_nil, List.length_map, reduceIte, Bool.not_true, Bool.not_false, Bool.false_eq_true, decide_true, decide_false, Bool.and_true, Bool.true_and, beq_self_eq_true, Nat.zero_add, Option.isSome_some, sizeLine_v, Nat.reduceAdd, Int.cast_ofNat_Int, Int.natCast_zero, Int.natCast_one, Int.reduceEq, Int.reduceLT, Int.reduceLE, Int.reduceNeg, Int.reduceAdd, Int.reduceMul, Int.reduceSub, Nat.reduceEqDiff, Nat.reduceLT, Nat.reduceLeDiff, sFor, iSeq, srcOf, iSrc, pRange1, pRange2, iEnum', srcEn, eb, eb', es, ix0, ix1, ix2, ix3, jx0, jx1, jx2, gs, gs', gz, q0, q1, nm, dm, c1, c2', c3, c4, n1, n2, n3, Int.lt_irrefl, List.set_set, ne_eq, not_false_eq_true, true_and, and_self]; rfl⟩
      · exact ⟨_, _, _, _, Int.le_refl 0, h1, get_set_same e⟩
      · exact .set
      · simp
  · have q3 : (0 : Int) < b0 := by omega
    refine ⟨b0.fmod many, _, (mn _).1, (mn _).2, ?_, ?_, ?_, by simp only [mkFn, sSeq, sNil, sBrk, sCnt, bindS, sExpr, sRet, sRetN, sIf, sSet, sSetIdx, sAug, sAsg, tgName, tgTup, tgSeq, R.bind, R.of, eVar, eC, eBin, eUn, eChain, tBool, tTru, truth, tNot', tAnd', tOr', tYes', eAnd, eOr, eNot, eIf, aNil, aCons, eTup, eLst, eCallB, eCall, eSl, oNone, oSome, pSl, pAdd, pSub, pMul_ok, pDiv, pMod, pNeg, pIAdd, pCmp, pEq, pNe, eqD, pIsN, pNotN, isNon, pIn, pNotIn, inD, pIdx, pLen, lenD, pAbs, pMax2, pMin2, pInt, pStr, pTuple, pList, pIsi, isiD, eMeth, tyD, pAppend, pCount, pRfind, pSIndex, pJoin, seqOf, Option.map_some, Option.map_none, Option.bind_some, Option.bind_none, Option.bind_eq_bind, Option.pure_def, List.getElem?_cons_zero, List.getElem?_cons_succ, List.getElem?_nil, List.set_cons_zero, List.set_cons_succ, List.set_nil, List.map_cons, List.map_nil, List.cons_append, List.nil_append, List.length_cons, List.length_nil, List.length_map, reduceIte, Bool.not_true, Bool.not_false, Bool.false_eq_true, decide_true, decide_false, Bool.and_true, Bool.true_and, beq_self_eq_true, Nat.zero_add, Option.isSome_some, sizeLine_v, Nat.reduceAdd, Int.cast_ofNat_Int, Int.natCast_zero, Int.natCast_one, Int.reduceEq, Int.reduceLT, Int.reduceLE, Int.reduceNeg, Int.reduceAdd, Int.reduceMul, Int.reduceSub, Nat.reduceEqDiff, Nat.reduceLT, Nat.reduceLeDiff, sFor, iSeq, srcOf, iSrc, pRange1, pRange2, iEnum', srcEn, eb, eb', es, ix0, ix1, ix2, ix3, jx0, jx1, jx2, gs, gs', gz, q0, q3, nm, dm, List.set_set, ne_eq, not_false_eq_true, true_and, and_self]; rfl⟩
    · exact ⟨_, _, _, _, Int.fdiv_nonneg (Int.le_of_lt q3) (Int.le_of_lt m0), h1, get_set_same e⟩
    · exact .set
    · simp
theorem bag_ok (ns : List Int) : ∃ h', h'.length = 3 ∧ Bag 2 h' ∧ h'[0]? = some (.scr (ns.map D.int)) ∧ fn__law_bag [.ref 0] [.scr (ns.map D.int)] = .ok (.ref 2) h' := by
  have e0 : itemsL [.scr (ns.map D.int)] 0 = some (ns.map D.int) := rfl
  have e1 : ∀ x y : Cell, itemsL [x, y] [x].length = itemsL [x, y] 1 := fun _ _ => rfl
  unfold fn__law_bag b__law_bag
  have c63 : cutL (ns.map D.int) none (some 63) = (ns.map D.int).take 63 := cutL_take 63
  have e2 : ∀ x y, itemsL [x, Cell.lst y] 1 = some y := fun _ _ => rfl
  simp only [mkFn, sSeq, sNil, sBrk, sCnt, bindS, sExpr, sRet, sRetN, sIf, sSet, sSetIdx, sAug, sAsg, tgName, tgTup, tgSeq, R.bind, R.of, eVar, eC, eBin, eUn, eChain, tBool, tTru, truth, tNot', tAnd', tOr', tYes', eAnd, eOr, eNot, eIf, aNil, aCons, eTup, eLst, eCallB, eCall, eSl, oNone, oSome, pSl, pAdd, pSub, pMul_ok, pDiv, pMod, pNeg, pIAdd, pCmp, pEq, pNe, eqD, pIsN, pNotN, isNon, pIn, pNotIn, inD, pIdx, pLen, lenD, pAbs, pMax2, pMin2, pInt, pStr, pTuple, pList, pIsi, isiD, eMeth, tyD, pAppend, pCount, pRfind, pSIndex, pJoin, seqOf, Option.map_some, Option.map_none, Option.bind_some, Option.bind_none, Option.bind_eq_bind, Option.pure_def, List.getElem?_cons_zero, List.getElem?_cons_succ, List.getElem?_nil, List.set_cons_zero, List.set_cons_succ, List.set_nil, List.map_cons, List.map_nil, List.cons_append, List.nil_append, List.length_cons, List.length_nil, List.length_map, reduceIte, Bool.not_true, Bool.not_false, Bool.false_eq_true, decide_true, decide_false, Bool.and_true, Bool.true_and, beq_self_eq_true, Nat.zero_add, Option.isSome_some, sizeLine_v, Nat.reduceAdd, Int.cast_ofNat_Int, Int.natCast_zero, Int.natCast_one, Int.reduceEq, Int.reduceLT, Int.reduceLE, Int.reduceNeg, Int.reduceAdd, Int.reduceMul, Int.reduceSub, Nat.reduceEqDiff, Nat.reduceLT, Nat.reduceLeDiff, sFor, iSeq, srcOf, iSrc, pRange1, pRange2, iEnum', srcEn, e0, e1, e2, c63]
  generalize ho : forL _ _ _ _ _ _ = o
  obtain ⟨seed, x, e⟩ : ∃ (seed : Int) (x : Option D), o = .nx [some (.ref 0), some (.int seed), x] [.scr (ns.map D.int), .lst ((ns.map D.int).take 63)] := by
    refine forL_run ho (fun _ ρ h => ∃ (seed : Int) (x : Option D), (-(2 ^ 64) < seed ∧ seed < 2 ^ 64) ∧ ρ = [some (.ref 0), some (.int seed), x] ∧ h = [.scr (ns.map D.int), .lst ((ns.map D.int).take 63)]) (fun o => ∃ (seed : Int) (x : Option D), o = .nx [some (.ref 0), some (.int seed), x] [.scr (ns.map D.int), .lst ((ns.map D.int).take 63)]) ?_ ?_ ⟨11, _, by decide, rfl, rfl⟩
    · rintro i d ρ h hi ⟨seed, x, b, rfl, rfl⟩
      refine ⟨rfl, _, rfl, ?_⟩
      have hd : ∃ z, d = .int z := by
        have := List.mem_of_getElem? hi
        have := List.mem_of_mem_take this
        obtain ⟨z, _, rfl⟩ := List.mem_map.mp this
        exact ⟨z, rfl⟩
      obtain ⟨z, rfl⟩ := hd
      have cm : CMul seed 7919 := .inl b
      have n1 : (1000033 : Int) ≠ 0 := by decide
      simp only [mkFn, sSeq, sNil, sBrk, sCnt, bindS, sExpr, sRet, sRetN, sIf, sSet, sSetIdx, sAug, sAsg, tgName, tgTup, tgSeq, R.bind, R.of, eVar, eC, eBin, eUn, eChain, tBool, tTru, truth, tNot', tAnd', tOr', tYes', eAnd, eOr, eNot, eIf, aNil, aCons, eTup, eLst, eCallB, eCall, eSl, oNone, oSome, pSl, pAdd, pSub, pMul_ok, pDiv, pMod, pNeg, pIAdd, pCmp, pEq, pNe, eqD, pIsN, pNotN, isNon, pIn, pNotIn, inD, pIdx, pLen, lenD, pAbs, pMax2, pMin2, pInt, pStr, pTuple, pList, pIsi, isiD, eMeth, tyD, pAppend, pCount, pRfind, pSIndex, pJoin, seqOf, Option.map_some, Option.map_none, Option.bind_some, Option.bind_none, Option.bind_eq_bind, Option.pure_def, List.getElem?_cons_zero, List.getElem?_cons_succ, List.getElem?_nil, List.set_cons_zero, List.set_cons_succ, List.set_nil, List.map_cons, List.map_nil, List.cons_append, List.nil_append, List.length_cons, List.length_nil, List.length_map, reduceIte, Bool.not_true, Bool.not_false, Bool.false_eq_true, decide_true, decide_false, Bool.and_true, Bool.true_and, beq_self_eq_true, Nat.zero_add, Option.isSome_some, sizeLine_v, Nat.reduceAdd, Int.cast_ofNat_Int, Int.natCast_zero, Int.natCast_one, Int.reduceEq, Int.reduceLT, Int.reduceLE, Int.reduceNeg, Int.reduceAdd, Int.reduceMul, Int.reduceSub, Nat.reduceEqDiff, Nat.reduceLT, Nat.reduceLeDiff, sFor, iSeq, srcOf, iSrc, pRange1, pRange2, iEnum', srcEn, p__law_bag_1, cm, n1, not_false_eq_true, ne_eq]
      have := Int.fmod_nonneg_of_pos (seed * 7919 + z) (b := 1000033) (by decide)
      have := Int.fmod_lt_of_pos (seed * 7919 + z) (b := 1000033) (by decide)
      exact ⟨_, _, by omega, rfl, rfl⟩
    · rintro ρ h ⟨seed, x, b, rfl, rfl⟩
      exact ⟨rfl, seed, x, rfl⟩
  subst e
  simp only [mkFn, sSeq, sNil, sBrk, sCnt, bindS, sExpr, sRet, sRetN, sIf, sSet, sSetIdx, sAug, sAsg, tgName, tgTup, tgSeq, R.bind, R.of, eVar, eC, eBin, eUn, eChain, tBool, tTru, truth, tNot', tAnd', tOr', tYes', eAnd, eOr, eNot, eIf, aNil, aCons, eTup, eLst, eCallB, eCall, eSl, oNone, oSome, pSl, pAdd, pSub, pMul_ok, pDiv, pMod, pNeg, pIAdd, pCmp, pEq, pNe, eqD, pIsN, pNotN, isNon, pIn, pNotIn, inD, pIdx, pLen, lenD, pAbs, pMax2, pMin2, pInt, pStr, pTuple, pList, pIsi, isiD, eMeth, tyD, pAppend, pCount, pRfind, pSIndex, pJoin, seqOf, Option.map_some, Option.map_none, Option.bind_some, Option.bind_none, Option.bind_eq_bind, Option.pure_def, List.getElem?_cons_zero, List.getElem?_cons_succ, List.getElem?_nil, List.set_cons_zero, List.set_cons_succ, List.set_nil, List.map_cons, List.map_nil, List.cons_append, List.nil_append, List.length_cons, List.length_nil, List.length_map, reduceIte, Bool.not_true, Bool.not_false, Bool.false_eq_true, decide_true, decide_false, Bool.and_true, Bool.true_and, beq_self_eq_true, Nat.zero_add, Option.isSome_some, sizeLine_v, Nat.reduceAdd, Int.cast_ofNat_Int, Int.natCast_zero, Int.natCast_one, Int.reduceEq, Int.reduceLT, Int.reduceLE, Int.reduceNeg, Int.reduceAdd, Int.reduceMul, Int.reduceSub, Nat.reduceEqDiff, Nat.reduceLT, Nat.reduceLeDiff, sFor, iSeq, srcOf, iSrc, pRange1, pRange2, iEnum', srcEn]
  exact ⟨_, rfl, ⟨0, 0, 0, seed, Int.le_refl _, Int.le_refl _, rfl⟩, rfl, rfl⟩
def _root_.Py.Ev.num (e : Ev) : Int := match e.n with
  | none => -1
  | some n => n
def _root_.Py.Ev.row (e : Ev) : D := .tup [.int e.t, .str (wd e.k), .int e.num]
theorem asc_snoc : ∀ {es : List Ev} {low : Nat} {e : Ev}, Asc low es → lastT low es ≤ e.t → e.valid → Asc low (es ++ [e])
  | [], low, e, _, h, v => ⟨h, v, trivial⟩
  | f :: es, low, e, a, h, v => by
    have : lastT low (f :: es) = lastT f.t es := by
      unfold lastT
      cases es with
      | nil => rfl
      | cons f fs => simp [List.getLast?_cons]
    rw [this] at h
    exact ⟨a.1, a.2.1, asc_snoc a.2.2 h v⟩
theorem lastT_snoc {es : List Ev} {low : Nat} {e : Ev} : lastT low (es ++ [e]) = e.t := by unfold lastT; simp
theorem words_at : ∀ k : Nat, k < 8 → ([.str [97, 115, 107], .str [97, 114, 114, 105, 118, 101], .str [100, 111], .str [97, 103, 97, 105, 110], .str [104, 101, 97, 114], .str [108, 97, 116, 101], .str [99, 114, 97, 115, 104], .str [103, 105, 118, 101, 32, 117, 112]] : List D)[k]? = some (.str (wd k))
  | 0, _ => rfl
  | 1, _ => rfl
  | 2, _ => rfl
  | 3, _ => rfl
  | 4, _ => rfl
  | 5, _ => rfl
  | 6, _ => rfl
  | 7, _ => rfl
  | n + 8, h => by omega
theorem wd6 : ∀ k < 8, (wd k = [99, 114, 97, 115, 104] ↔ k = 6) := by decide
theorem wd7 : ∀ k < 8, (wd k = [103, 105, 118, 101, 32, 117, 112] ↔ k = 7) := by decide
theorem events_ok {ns : List Int} {h : HH} {b : Nat} (B : Bag b h) (hs : h[0]? = some (.scr (ns.map D.int))) (hb : b ≠ 0) :
    ∃ (E : List Ev) (h' : HH) (r : Nat), Asc 0 E ∧ 0 < E.length ∧ E.length ≤ 300 ∧ Bag b h' ∧ Ext b h h' ∧ h.length ≤ r ∧ h'[r]? = some (.lst (E.map Ev.row)) ∧ fn__law_events [.ref b, .ref 0] h = .ok (.ref r) h' := by
  have hbl : b < h.length := by obtain ⟨_, _, _, _, _, _, e⟩ := B; exact get_lt e
  unfold fn__law_events b__law_events
  generalize hw : ([.str [97, 115, 107], .str [97, 114, 114, 105, 118, 101], .str [100, 111], .str [97, 103, 97, 105, 110], .str [104, 101, 97, 114], .str [108, 97, 116, 101], .str [99, 114, 97, 115, 104], .str [103, 105, 118, 101, 32, 117, 112]] : List D) = words
  obtain ⟨r1, h1, a1, a2, B1, x1, l1, e1⟩ := take_ok (many := 3) (B.app (t := [.lst words])) (get_app_old hs) hb (by decide) (by decide)
  obtain ⟨r2, h2, c1, c2, B2, x2, l2, e2⟩ := take_ok (many := 12) (B1.app (t := [.lst []])) (get_app_old (x1.get (Ne.symm hb) (get_app_old hs))) hb (by decide) (by decide)
  obtain ⟨r3, h3, d1, d2, B3, x3, l3, e3⟩ := take_ok (many := 241) B2 (x2.get (Ne.symm hb) (get_app_old (x1.get (Ne.symm hb) (get_app_old hs)))) hb (by decide) (by decide)
  have hh1 : h1.length = h.length + 1 := by rw [l1]; simp
  have hh2 : h2.length = h.length + 2 := by rw [l2]; simp [hh1]
  have hr3 : InR (60 + r3) := ⟨by omega, by omega⟩
  have wl : words.length = 8 := by rw [← hw]; rfl
  simp only [mkFn, sSeq, sNil, sBrk, sCnt, bindS, sExpr, sRet, sRetN, sIf, sSet, sSetIdx, sAug, sAsg, tgName, tgTup, tgSeq, R.bind, R.of, eVar, eC, eBin, eUn, eChain, tBool, tTru, truth, tNot', tAnd', tOr', tYes', eAnd, eOr, eNot, eIf, aNil, aCons, eTup, eLst, eCallB, eCall, eSl, oNone, oSome, pSl, pAdd, pSub, pMul_ok, pDiv, pMod, pNeg, pIAdd, pCmp, pEq, pNe, eqD, pIsN, pNotN, isNon, pIn, pNotIn, inD, pIdx, pLen, lenD, pAbs, pMax2, pMin2, pInt, pStr, pTuple, pList, pIsi, isiD, eMeth, tyD, pAppend, pCount, pRfind, pSIndex, pJoin, seqOf, Option.map_some, Option.map_none, Option.bind_some, Option.bind_none, Option.bind_eq_bind, Option.pure_def, List.getElem?_cons_zero, List.getElem?_cons_succ, List.getElem?_nil, List.set_cons_zero, List.set_cons_succ, List.set_nil, List.map_cons, List.map_nil, List.cons_append, List.nil_append, List.length_cons, List.length_nil, List.length_map, reduceIte, Bool.not_true, Bool.not_false, Bool.false_eq_true, decide_true, decide_false, Bool.and_true, Bool.true_and, beq_self_eq_true, Nat.zero_add, Option.isSome_some, sizeLine_v, Nat.reduceAdd, Int.cast_ofNat_Int, Int.natCast_zero, Int.natCast_one, Int.reduceEq, Int.reduceLT, Int.reduceLE, Int.reduceNeg, Int.reduceAdd, Int.reduceMul, Int.reduceSub, Nat.reduceEqDiff, Nat.reduceLT, Nat.reduceLeDiff, sFor, iSeq, srcOf, iSrc, pRange1, pRange2, iEnum', srcEn, hw, wl, e1, e2, e3, hr3, Nat.reduceLeDiff, and_self]
  generalize ho : forL _ _ _ _ _ _ = o
  obtain ⟨E, ρ', h', eo, hE, hl, B', x', hrow, er⟩ : ∃ (E : List Ev) (ρ' : Rho) (h' : HH), o = .nx ρ' h' ∧ Asc 0 E ∧ E.length = (60 + r3).toNat ∧ Bag b h' ∧ Ext b h h' ∧ h'[h1.length]? = some (.lst (E.map Ev.row)) ∧ ρ'[4]? = some (some (.ref h1.length)) := by
    refine forL_run ho (fun i ρ h' => ∃ (E : List Ev) (t : Nat) (x y z : Option D), E.length = i ∧ Asc 0 E ∧ lastT 0 E ≤ t ∧ t ≤ 400 ∧ Bag b h' ∧ Ext b h h' ∧ h'[h1.length]? = some (.lst (E.map Ev.row)) ∧ h'[h.length]? = some (.lst words) ∧ ρ = [some (.ref b), some (.ref 0), some (.ref h.length), some (.int (2 + r1)), some (.ref h1.length), some (.int t), x, y, z]) (fun o => ∃ (E : List Ev) (ρ' : Rho) (h' : HH), o = .nx ρ' h' ∧ Asc 0 E ∧ E.length = (60 + r3).toNat ∧ Bag b h' ∧ Ext b h h' ∧ h'[h1.length]? = some (.lst (E.map Ev.row)) ∧ ρ'[4]? = some (some (.ref h1.length))) ?_ ?_ ?_
    · rintro i d ρ h' hi ⟨E, t, x, y, z, q1, q2, q3, q4, q5, q6, q7, q8, rfl⟩
      refine ⟨trivial, _, rfl, ?_⟩
      have hs' := q6.get (Ne.symm hb) hs
      obtain ⟨k1, g1, m1, m2, C1, y1, n1, f1⟩ := take_ok (many := 2 + r1) q5 hs' hb (by omega) (by omega)
      obtain ⟨k2, g2, m3, m4, C2, y2, n2, f2⟩ := take_ok (many := 8) C1 (y1.get (Ne.symm hb) hs') hb (by decide) (by decide)
      obtain ⟨k3, g3, m5, m6, C3, y3, n3, f3⟩ := take_ok (many := 40) C2 (y2.get (Ne.symm hb) (y1.get (Ne.symm hb) hs')) hb (by decide) (by decide)
      have hbw : h.length ≠ b := by omega
      have hbr : h1.length ≠ b := by omega
      have w2 : itemsL g2 h.length = some words := itemsL_lst (y2.get hbw (y1.get hbw q8))
      have s2 := y2.get hbr (y1.get hbr q7)
      have s3 := y3.get hbr s2
      have ls2 := lstOf_lst s2
      have ls3 := lstOf_lst s3
      have t2 := itemsL_lst s2
      have t3 := itemsL_lst s3
      have ib : i < 300 := by
        obtain ⟨hh, _⟩ := List.getElem?_eq_some_iff.mp hi
        rw [rgD_len] at hh
        omega
      have lb : E.length < 16777216 := by omega
      have wk : L2.atI words k2 = some (.str (wd k2.toNat)) := atI_at m3 (by rw [← hw]; exact words_at _ (by omega))
      have w6 := wd6 k2.toNat (by omega)
      have w7 := wd7 k2.toNat (by omega)
      have tick : ∃ t' : Nat, (if (t : Int) + k1 < 400 then (t : Int) + k1 else 400) = (t' : Int) ∧ t ≤ t' ∧ t' ≤ 400 := by
        split
        · exact ⟨(t + k1.toNat), by omega, by omega, by omega⟩
        · exact ⟨400, rfl, q4, Nat.le_refl _⟩
      obtain ⟨t', ht', u1, u2⟩ := tick
      have hlen : i + 1 = E.length + 1 := by omega
      by_cases hk : k2 = 6 ∨ k2 = 7
      · have cnd : ¬ (¬ wd k2.toNat = [99, 114, 97, 115, 104] ∧ ¬ wd k2.toNat = [103, 105, 118, 101, 32, 117, 112]) := by rw [w6, w7]; omega
        have v : Ev.valid ⟨t', k2.toNat, none⟩ := ⟨u2, .inr ⟨by dsimp only; omega, rfl⟩⟩
        have fin : StepQ (fun ρ h' => ∃ (E : List Ev) (t : Nat) (x y z : Option D), E.length = i + 1 ∧ Asc 0 E ∧ lastT 0 E ≤ t ∧ t ≤ 400 ∧ Bag b h' ∧ Ext b h h' ∧ h'[h1.length]? = some (.lst (E.map Ev.row)) ∧ h'[h.length]? = some (.lst words) ∧ ρ = [some (.ref b), some (.ref 0), some (.ref h.length), some (.int (2 + r1)), some (.ref h1.length), some (.int t), x, y, z]) (fun o => ∃ (E : List Ev) (ρ' : Rho) (h' : HH), o = .nx ρ' h' ∧ Asc 0 E ∧ E.length = (60 + r3).toNat ∧ Bag b h' ∧ Ext b h h' ∧ h'[h1.length]? = some (.lst (E.map Ev.row)) ∧ ρ'[4]? = some (some (.ref h1.length))) (.nx [some (.ref b), some (.ref 0), some (.ref h.length), some (.int (2 + r1)), some (.ref h1.length), some (.int t'), some d, some (.str (wd k2.toNat)), some (.int (-1))] (g2.set h1.length (.lst ((E.map Ev.row) ++ [.tup [.int t', .str (wd k2.toNat), .int (-1)]])))) := by
          refine ⟨E ++ [⟨t', k2.toNat, none⟩], t', _, _, _, by rw [List.length_append]; simp; omega, asc_snoc q2 (by dsimp only; omega) v, by rw [lastT_snoc]; exact Nat.le_refl _, u2, ?_, ?_, ?_, ?_, rfl⟩
          · exact Bag.ext C2 (Ne.symm hbr) .set
          · exact Ext.set_new (q6.trans (y1.trans y2)) (by omega)
          · rw [get_set_same s2, List.map_append]
            rfl
          · rw [List.getElem?_set, if_neg (by omega)]
            exact y2.get hbw (y1.get hbw q8)
        by_cases hk6 : k2 = 6
        · have z1 : wd k2.toNat = [99, 114, 97, 115, 104] := w6.mpr (by omega)
          simp only [mkFn, sSeq, sNil, sBrk, sCnt, bindS, sExpr, sRet, sRetN, sIf, sSet, sSetIdx, sAug, sAsg, tgName, tgTup, tgSeq, R.bind, R.of, eVar, eC, eBin, eUn, eChain, tBool, tTru, truth, tNot', tAnd', tOr', tYes', eAnd, eOr, eNot, eIf, aNil, aCons, eTup, eLst, eCallB, eCall, eSl, oNone, oSome, pSl, pAdd, pSub, pMul_ok, pDiv, pMod, pNeg, pIAdd, pCmp, pEq, pNe, eqD, pIsN, pNotN, isNon, pIn, pNotIn, inD, pIdx, pLen, lenD, pAbs, pMax2, pMin2, pInt, pStr, pTuple, pList, pIsi, isiD, eMeth, tyD, pAppend, pCount, pRfind, pSIndex, pJoin, seqOf, Option.map_some, Option.map_none, Option.bind_some, Option.bind_none, Option.bind_eq_bind, Option.pure_def, List.getElem?_cons_zero, List.getElem?_cons_succ, List.getElem?_nil, List.set_cons_zero, List.set_cons_succ, List.set_nil, List.map_cons, List.map_nil, List.cons_append, List.nil_append, List.length_cons, List.length_nil, List.length_map, reduceIte, Bool.not_true, Bool.not_false, Bool.false_eq_true, decide_true, decide_false, Bool.and_true, Bool.true_and, beq_self_eq_true, Nat.zero_add, Option.isSome_some, sizeLine_v, Nat.reduceAdd, Int.cast_ofNat_Int, Int.natCast_zero, Int.natCast_one, Int.reduceEq, Int.reduceLT, Int.reduceLE, Int.reduceNeg, Int.reduceAdd, Int.reduceMul, Int.reduceSub, Nat.reduceEqDiff, Nat.reduceLT, Nat.reduceLeDiff, sFor, iSeq, srcOf, iSrc, pRange1, pRange2, iEnum', srcEn, p__law_events_1, f1, f2, ht', w2, wk, z1, ls2, t2, lb, List.length_map, Nat.reduceLeDiff]
          rw [z1] at fin
          exact fin
        · have z1 : ¬ wd k2.toNat = [99, 114, 97, 115, 104] := fun z => by have := w6.mp z; omega
          have z2 : wd k2.toNat = [103, 105, 118, 101, 32, 117, 112] := w7.mpr (by omega)
          have z3 : ¬ ([103, 105, 118, 101, 32, 117, 112] : List Nat) = [99, 114, 97, 115, 104] := by decide
          simp only [mkFn, sSeq, sNil, sBrk, sCnt, bindS, sExpr, sRet, sRetN, sIf, sSet, sSetIdx, sAug, sAsg, tgName, tgTup, tgSeq, R.bind, R.of, eVar, eC, eBin, eUn, eChain, tBool, tTru, truth, tNot', tAnd', tOr', tYes', eAnd, eOr, eNot, eIf, aNil, aCons, eTup, eLst, eCallB, eCall, eSl, oNone, oSome, pSl, pAdd, pSub, pMul_ok, pDiv, pMod, pNeg, pIAdd, pCmp, pEq, pNe, eqD, pIsN, pNotN, isNon, pIn, pNotIn, inD, pIdx, pLen, lenD, pAbs, pMax2, pMin2, pInt, pStr, pTuple, pList, pIsi, isiD, eMeth, tyD, pAppend, pCount, pRfind, pSIndex, pJoin, seqOf, Option.map_some, Option.map_none, Option.bind_some, Option.bind_none, Option.bind_eq_bind, Option.pure_def, List.getElem?_cons_zero, List.getElem?_cons_succ, List.getElem?_nil, List.set_cons_zero, List.set_cons_succ, List.set_nil, List.map_cons, List.map_nil, List.cons_append, List.nil_append, List.length_cons, List.length_nil, List.length_map, reduceIte, Bool.not_true, Bool.not_false, Bool.false_eq_true, decide_true, decide_false, Bool.and_true, Bool.true_and, beq_self_eq_true, Nat.zero_add, Option.isSome_some, sizeLine_v, Nat.reduceAdd, Int.cast_ofNat_Int, Int.natCast_zero, Int.natCast_one, Int.reduceEq, Int.reduceLT, Int.reduceLE, Int.reduceNeg, Int.reduceAdd, Int.reduceMul, Int.reduceSub, Nat.reduceEqDiff, Nat.reduceLT, Nat.reduceLeDiff, sFor, iSeq, srcOf, iSrc, pRange1, pRange2, iEnum', srcEn, p__law_events_1, f1, f2, ht', w2, wk, z1, z2, z3, ls2, t2, lb, List.length_map, Nat.reduceLeDiff]
          rw [z2] at fin
          exact fin
      · have z1 : ¬ wd k2.toNat = [99, 114, 97, 115, 104] := fun z => by have := w6.mp z; omega
        have z2 : ¬ wd k2.toNat = [103, 105, 118, 101, 32, 117, 112] := fun z => by have := w7.mp z; omega
        obtain ⟨n3', rfl⟩ := int_of m5
        have v : Ev.valid ⟨t', k2.toNat, some n3'⟩ := ⟨u2, .inl ⟨by dsimp only; omega, n3', rfl, by omega⟩⟩
        simp only [mkFn, sSeq, sNil, sBrk, sCnt, bindS, sExpr, sRet, sRetN, sIf, sSet, sSetIdx, sAug, sAsg, tgName, tgTup, tgSeq, R.bind, R.of, eVar, eC, eBin, eUn, eChain, tBool, tTru, truth, tNot', tAnd', tOr', tYes', eAnd, eOr, eNot, eIf, aNil, aCons, eTup, eLst, eCallB, eCall, eSl, oNone, oSome, pSl, pAdd, pSub, pMul_ok, pDiv, pMod, pNeg, pIAdd, pCmp, pEq, pNe, eqD, pIsN, pNotN, isNon, pIn, pNotIn, inD, pIdx, pLen, lenD, pAbs, pMax2, pMin2, pInt, pStr, pTuple, pList, pIsi, isiD, eMeth, tyD, pAppend, pCount, pRfind, pSIndex, pJoin, seqOf, Option.map_some, Option.map_none, Option.bind_some, Option.bind_none, Option.bind_eq_bind, Option.pure_def, List.getElem?_cons_zero, List.getElem?_cons_succ, List.getElem?_nil, List.set_cons_zero, List.set_cons_succ, List.set_nil, List.map_cons, List.map_nil, List.cons_append, List.nil_append, List.length_cons, List.length_nil, List.length_map, reduceIte, Bool.not_true, Bool.not_false, Bool.false_eq_true, decide_true, decide_false, Bool.and_true, Bool.true_and, beq_self_eq_true, Nat.zero_add, Option.isSome_some, sizeLine_v, Nat.reduceAdd, Int.cast_ofNat_Int, Int.natCast_zero, Int.natCast_one, Int.reduceEq, Int.reduceLT, Int.reduceLE, Int.reduceNeg, Int.reduceAdd, Int.reduceMul, Int.reduceSub, Nat.reduceEqDiff, Nat.reduceLT, Nat.reduceLeDiff, sFor, iSeq, srcOf, iSrc, pRange1, pRange2, iEnum', srcEn, p__law_events_1, f1, f2, f3, ht', w2, wk, z1, z2, ls3, t3, lb, List.length_map, Nat.reduceLeDiff]
        refine ⟨E ++ [⟨t', k2.toNat, some n3'⟩], t', _, _, _, by rw [List.length_append]; simp; omega, asc_snoc q2 (by dsimp only; omega) v, by rw [lastT_snoc]; exact Nat.le_refl _, u2, ?_, ?_, ?_, ?_, rfl⟩
        · exact Bag.ext C3 (Ne.symm hbr) .set
        · exact Ext.set_new (q6.trans (y1.trans (y2.trans y3))) (by omega)
        · rw [get_set_same s3, List.map_append]
          rfl
        · rw [List.getElem?_set, if_neg (by omega)]
          exact y3.get hbw (y2.get hbw (y1.get hbw q8))
    · rintro ρ h' ⟨E, t, x, y, z, q1, q2, q3, q4, q5, q6, q7, q8, rfl⟩
      rw [rgD_len] at q1
      exact ⟨trivial, E, _, h', rfl, q2, q1, q5, q6, q7, rfl⟩
    · refine ⟨[], r2.toNat, none, none, none, rfl, trivial, Nat.zero_le _, by omega, B3, ?_, ?_, ?_, ?_⟩
      · have y0 : Ext b h (h ++ [.lst words]) := .app
        exact (y0.trans x1).trans ((Ext.app (t := [.lst []])).trans (x2.trans x3))
      · exact x3.get (by omega) (x2.get (by omega) get_app_new)
      · exact x3.get (by omega) (x2.get (by omega) (get_app_old (x1.get (by omega) get_app_new)))
      · rw [Int.toNat_of_nonneg c1]
  subst eo
  simp only [mkFn, sSeq, sNil, sBrk, sCnt, bindS, sExpr, sRet, sRetN, sIf, sSet, sSetIdx, sAug, sAsg, tgName, tgTup, tgSeq, R.bind, R.of, eVar, eC, eBin, eUn, eChain, tBool, tTru, truth, tNot', tAnd', tOr', tYes', eAnd, eOr, eNot, eIf, aNil, aCons, eTup, eLst, eCallB, eCall, eSl, oNone, oSome, pSl, pAdd, pSub, pMul_ok, pDiv, pMod, pNeg, pIAdd, pCmp, pEq, pNe, eqD, pIsN, pNotN, isNon, pIn, pNotIn, inD, pIdx, pLen, lenD, pAbs, pMax2, pMin2, pInt, pStr, pTuple, pList, pIsi, isiD, eMeth, tyD, pAppend, pCount, pRfind, pSIndex, pJoin, seqOf, Option.map_some, Option.map_none, Option.bind_some, Option.bind_none, Option.bind_eq_bind, Option.pure_def, List.getElem?_cons_zero, List.getElem?_cons_succ, List.getElem?_nil, List.set_cons_zero, List.set_cons_succ, List.set_nil, List.map_cons, List.map_nil, List.cons_append, List.nil_append, List.length_cons, List.length_nil, List.length_map, reduceIte, Bool.not_true, Bool.not_false, Bool.false_eq_true, decide_true, decide_false, Bool.and_true, Bool.true_and, beq_self_eq_true, Nat.zero_add, Option.isSome_some, sizeLine_v, Nat.reduceAdd, Int.cast_ofNat_Int, Int.natCast_zero, Int.natCast_one, Int.reduceEq, Int.reduceLT, Int.reduceLE, Int.reduceNeg, Int.reduceAdd, Int.reduceMul, Int.reduceSub, Nat.reduceEqDiff, Nat.reduceLT, Nat.reduceLeDiff, sFor, iSeq, srcOf, iSrc, pRange1, pRange2, iEnum', srcEn, er]
  exact ⟨E, h', h1.length, hE, by omega, by omega, B', x', by omega, hrow, rfl⟩
end T75
set_option Elab.async false
set_option linter.all false
set_option maxRecDepth 100000
set_option maxHeartbeats 4000000
namespace T75
open PySem PySem.Spec PyProof.Rows L2 Py
theorem sgN_len (x : Nat) : (sgN x).length ≤ 3 := by
  unfold sgN
  split
  · simp
  · split <;> simp
theorem log2_small {x : Nat} (h : x < 1000) : (x : Int).natAbs.log2 < 1920 := by
  rw [Int.natAbs_natCast]
  by_cases h0 : x = 0
  · subst h0; decide
  · have := (Nat.log2_lt h0 (k := 10)).mpr (by omega)
    omega
theorem line_ok {e : Ev} (v : e.valid) (h : HH) : fn__law_line [e.row] h = .ok (.str e.line) h := by
  obtain ⟨t, k, n⟩ := e
  have ht : t ≤ 400 := v.1
  have st := signs_tab t (by omega)
  have l1 := sgN_len t
  have g1 := log2_small (x := t) (by omega)
  unfold fn__law_line b__law_line Ev.row Ev.line Ev.tail Ev.num
  rcases v.2 with ⟨hk, m, hn, hm⟩ | ⟨hk, hn⟩
  · dsimp only at hk hn
    subst hn
    have sm := signs_tab m (by omega)
    have l2 := sgN_len m
    have g2 := log2_small (x := m) (by omega)
    have n0 : ¬ (m : Int) < 0 := by omega
    have hk' : k = 0 ∨ k = 1 ∨ k = 2 ∨ k = 3 ∨ k = 4 ∨ k = 5 := by omega
    rcases hk' with rfl | rfl | rfl | rfl | rfl | rfl <;> (simp (disch := omega) only [mkFn, sSeq, sNil, sBrk, sCnt, bindS, sExpr, sRet, sRetN, sIf, sSet, sSetIdx, sAug, sAsg, tgName, tgTup, tgSeq, R.bind, R.of, eVar, eC, eBin, eUn, eChain, tBool, tTru, truth, tNot', tAnd', tOr', tYes', eAnd, eOr, eNot, eIf, aNil, aCons, eTup, eLst, eCallB, eCall, eSl, oNone, oSome, pSl, pAdd, pSub, pMul_ok, pDiv, pMod, pNeg, pIAdd, pCmp, pEq, pNe, eqD, pIsN, pNotN, isNon, pIn, pNotIn, inD, pIdx, pLen, lenD, pAbs, pMax2, pMin2, pInt, pStr, pTuple, pList, pIsi, isiD, eMeth, tyD, pAppend, pCount, pRfind, pSIndex, pJoin, seqOf, Option.map_some, Option.map_none, Option.bind_some, Option.bind_none, Option.bind_eq_bind, Option.pure_def, List.getElem?_cons_zero, List.getElem?_cons_succ, List.getElem?_nil, List.set_cons_zero, List.set_cons_succ, List.set_nil, List.map_cons, List.map_nil, List.cons_append, List.nil_append, List.length_cons, List.length_nil, List.length_map, reduceIte, Bool.not_true, Bool.not_false, Bool.false_eq_true, decide_true, decide_false, Bool.and_true, Bool.true_and, beq_self_eq_true, Nat.zero_add, Option.isSome_some, sizeLine_v, Nat.reduceAdd, Int.cast_ofNat_Int, Int.natCast_zero, Int.natCast_one, Int.reduceEq, Int.reduceLT, Int.reduceLE, Int.reduceNeg, Int.reduceAdd, Int.reduceMul, Int.reduceSub, Nat.reduceEqDiff, Nat.reduceLT, Nat.reduceLeDiff, sFor, iSeq, srcOf, iSrc, pRange1, pRange2, iEnum', srcEn, if_pos, if_neg, at30, at31, at32, st, sm, g1, g2, n0, wd, endK, ended, List.getD_cons_zero, List.getD_cons_succ, List.dropLast_cons₂, List.dropLast_singleton, List.length_append]; simp)
  · dsimp only at hk hn
    subst hn
    have n0 : (-1 : Int) < 0 := by omega
    rcases hk with rfl | rfl <;> (simp (disch := omega) only [mkFn, sSeq, sNil, sBrk, sCnt, bindS, sExpr, sRet, sRetN, sIf, sSet, sSetIdx, sAug, sAsg, tgName, tgTup, tgSeq, R.bind, R.of, eVar, eC, eBin, eUn, eChain, tBool, tTru, truth, tNot', tAnd', tOr', tYes', eAnd, eOr, eNot, eIf, aNil, aCons, eTup, eLst, eCallB, eCall, eSl, oNone, oSome, pSl, pAdd, pSub, pMul_ok, pDiv, pMod, pNeg, pIAdd, pCmp, pEq, pNe, eqD, pIsN, pNotN, isNon, pIn, pNotIn, inD, pIdx, pLen, lenD, pAbs, pMax2, pMin2, pInt, pStr, pTuple, pList, pIsi, isiD, eMeth, tyD, pAppend, pCount, pRfind, pSIndex, pJoin, seqOf, Option.map_some, Option.map_none, Option.bind_some, Option.bind_none, Option.bind_eq_bind, Option.pure_def, List.getElem?_cons_zero, List.getElem?_cons_succ, List.getElem?_nil, List.set_cons_zero, List.set_cons_succ, List.set_nil, List.map_cons, List.map_nil, List.cons_append, List.nil_append, List.length_cons, List.length_nil, List.length_map, reduceIte, Bool.not_true, Bool.not_false, Bool.false_eq_true, decide_true, decide_false, Bool.and_true, Bool.true_and, beq_self_eq_true, Nat.zero_add, Option.isSome_some, sizeLine_v, Nat.reduceAdd, Int.cast_ofNat_Int, Int.natCast_zero, Int.natCast_one, Int.reduceEq, Int.reduceLT, Int.reduceLE, Int.reduceNeg, Int.reduceAdd, Int.reduceMul, Int.reduceSub, Nat.reduceEqDiff, Nat.reduceLT, Nat.reduceLeDiff, sFor, iSeq, srcOf, iSrc, pRange1, pRange2, iEnum', srcEn, if_pos, if_neg, at30, at31, at32, st, g1, n0, wd, endK, ended, List.getD_cons_zero, List.getD_cons_succ, List.dropLast_cons₂, List.dropLast_singleton, List.length_append]; simp)
theorem wevent_ok {e : Ev} (v : e.valid) (h : HH) : ∃ b, e.line = b ++ [10] ∧ b.length ≤ 20 ∧ fn__write_event [e.row] h = .ok (.str b) h := by
  have ll := line_len v
  obtain ⟨t, k, n⟩ := e
  have ht : t ≤ 400 := v.1
  have st := signs_tab t (by omega)
  have l1 := sgN_len t
  have g1 := log2_small (x := t) (by omega)
  unfold fn__write_event b__write_event
  unfold Ev.line Ev.tail at ll ⊢
  unfold Ev.row Ev.num
  rcases v.2 with ⟨hk, m, hn, hm⟩ | ⟨hk, hn⟩
  · dsimp only at hk hn
    subst hn
    have sm := signs_tab m (by omega)
    have l2 := sgN_len m
    have g2 := log2_small (x := m) (by omega)
    have hk' : k = 0 ∨ k = 1 ∨ k = 2 ∨ k = 3 ∨ k = 4 ∨ k = 5 := by omega
    refine ⟨(sgN t ++ [32]) ++ (endK k ++ sgN m), by simp, by simp at ll ⊢; omega, ?_⟩
    rcases hk' with rfl | rfl | rfl | rfl | rfl | rfl <;> (simp (disch := omega) only [mkFn, sSeq, sNil, sBrk, sCnt, bindS, sExpr, sRet, sRetN, sIf, sSet, sSetIdx, sAug, sAsg, tgName, tgTup, tgSeq, R.bind, R.of, eVar, eC, eBin, eUn, eChain, tBool, tTru, truth, tNot', tAnd', tOr', tYes', eAnd, eOr, eNot, eIf, aNil, aCons, eTup, eLst, eCallB, eCall, eSl, oNone, oSome, pSl, pAdd, pSub, pMul_ok, pDiv, pMod, pNeg, pIAdd, pCmp, pEq, pNe, eqD, pIsN, pNotN, isNon, pIn, pNotIn, inD, pIdx, pLen, lenD, pAbs, pMax2, pMin2, pInt, pStr, pTuple, pList, pIsi, isiD, eMeth, tyD, pAppend, pCount, pRfind, pSIndex, pJoin, seqOf, Option.map_some, Option.map_none, Option.bind_some, Option.bind_none, Option.bind_eq_bind, Option.pure_def, List.getElem?_cons_zero, List.getElem?_cons_succ, List.getElem?_nil, List.set_cons_zero, List.set_cons_succ, List.set_nil, List.map_cons, List.map_nil, List.cons_append, List.nil_append, List.length_cons, List.length_nil, List.length_map, reduceIte, Bool.not_true, Bool.not_false, Bool.false_eq_true, decide_true, decide_false, Bool.and_true, Bool.true_and, beq_self_eq_true, Nat.zero_add, Option.isSome_some, sizeLine_v, Nat.reduceAdd, Int.cast_ofNat_Int, Int.natCast_zero, Int.natCast_one, Int.reduceEq, Int.reduceLT, Int.reduceLE, Int.reduceNeg, Int.reduceAdd, Int.reduceMul, Int.reduceSub, Nat.reduceEqDiff, Nat.reduceLT, Nat.reduceLeDiff, sFor, iSeq, srcOf, iSrc, pRange1, pRange2, iEnum', srcEn, if_pos, if_neg, at30, at31, at32, st, sm, g1, g2, wd, endK, ended, List.getD_cons_zero, List.getD_cons_succ, List.dropLast_cons₂, List.dropLast_singleton, List.length_append, flatD, eqF, List.all_cons, List.all_nil, List.any_cons, List.any_nil, List.cons.injEq, List.cons_beq_cons, Nat.reduceBEq, Bool.false_and, Bool.or_false, and_self]; simp)
  · dsimp only at hk hn
    subst hn
    refine ⟨(sgN t ++ [32]) ++ wd k, ?_, by rcases hk with rfl | rfl <;> simp [wd, endK, ended] <;> omega, ?_⟩
    · rcases hk with rfl | rfl <;> simp [wd, endK, ended]
    · rcases hk with rfl | rfl <;> (simp (disch := omega) only [mkFn, sSeq, sNil, sBrk, sCnt, bindS, sExpr, sRet, sRetN, sIf, sSet, sSetIdx, sAug, sAsg, tgName, tgTup, tgSeq, R.bind, R.of, eVar, eC, eBin, eUn, eChain, tBool, tTru, truth, tNot', tAnd', tOr', tYes', eAnd, eOr, eNot, eIf, aNil, aCons, eTup, eLst, eCallB, eCall, eSl, oNone, oSome, pSl, pAdd, pSub, pMul_ok, pDiv, pMod, pNeg, pIAdd, pCmp, pEq, pNe, eqD, pIsN, pNotN, isNon, pIn, pNotIn, inD, pIdx, pLen, lenD, pAbs, pMax2, pMin2, pInt, pStr, pTuple, pList, pIsi, isiD, eMeth, tyD, pAppend, pCount, pRfind, pSIndex, pJoin, seqOf, Option.map_some, Option.map_none, Option.bind_some, Option.bind_none, Option.bind_eq_bind, Option.pure_def, List.getElem?_cons_zero, List.getElem?_cons_succ, List.getElem?_nil, List.set_cons_zero, List.set_cons_succ, List.set_nil, List.map_cons, List.map_nil, List.cons_append, List.nil_append, List.length_cons, List.length_nil, List.length_map, reduceIte, Bool.not_true, Bool.not_false, Bool.false_eq_true, decide_true, decide_false, Bool.and_true, Bool.true_and, beq_self_eq_true, Nat.zero_add, Option.isSome_some, sizeLine_v, Nat.reduceAdd, Int.cast_ofNat_Int, Int.natCast_zero, Int.natCast_one, Int.reduceEq, Int.reduceLT, Int.reduceLE, Int.reduceNeg, Int.reduceAdd, Int.reduceMul, Int.reduceSub, Nat.reduceEqDiff, Nat.reduceLT, Nat.reduceLeDiff, sFor, iSeq, srcOf, iSrc, pRange1, pRange2, iEnum', srcEn, if_pos, if_neg, at30, at31, at32, st, g1, wd, endK, ended, List.getD_cons_zero, List.getD_cons_succ, List.dropLast_cons₂, List.dropLast_singleton, List.length_append, flatD, eqF, List.all_cons, List.all_nil, List.any_cons, List.any_nil, List.cons.injEq, List.cons_beq_cons, Nat.reduceBEq, Bool.false_and, Bool.or_false, Bool.or_true, Bool.true_or, Bool.false_or, and_self])
theorem int_in (i lo hi : Int) (h : HH) : fn_is_int_in [.int i, .int lo, .int hi] h = .ok (.bl (decide (lo ≤ i) && decide (i ≤ hi))) h := by
  unfold fn_is_int_in b_is_int_in fn_is_int b_is_int
  by_cases q : lo ≤ i
  · simp only [mkFn, sSeq, sNil, sBrk, sCnt, bindS, sExpr, sRet, sRetN, sIf, sSet, sSetIdx, sAug, sAsg, tgName, tgTup, tgSeq, R.bind, R.of, eVar, eC, eBin, eUn, eChain, tBool, tTru, truth, tNot', tAnd', tOr', tYes', eAnd, eOr, eNot, eIf, aNil, aCons, eTup, eLst, eCallB, eCall, eSl, oNone, oSome, pSl, pAdd, pSub, pMul_ok, pDiv, pMod, pNeg, pIAdd, pCmp, pEq, pNe, eqD, pIsN, pNotN, isNon, pIn, pNotIn, inD, pIdx, pLen, lenD, pAbs, pMax2, pMin2, pInt, pStr, pTuple, pList, pIsi, isiD, eMeth, tyD, pAppend, pCount, pRfind, pSIndex, pJoin, seqOf, Option.map_some, Option.map_none, Option.bind_some, Option.bind_none, Option.bind_eq_bind, Option.pure_def, List.getElem?_cons_zero, List.getElem?_cons_succ, List.getElem?_nil, List.set_cons_zero, List.set_cons_succ, List.set_nil, List.map_cons, List.map_nil, List.cons_append, List.nil_append, List.length_cons, List.length_nil, List.length_map, reduceIte, Bool.not_true, Bool.not_false, Bool.false_eq_true, decide_true, decide_false, Bool.and_true, Bool.true_and, beq_self_eq_true, Nat.zero_add, Option.isSome_some, sizeLine_v, Nat.reduceAdd, Int.cast_ofNat_Int, Int.natCast_zero, Int.natCast_one, Int.reduceEq, Int.reduceLT, Int.reduceLE, Int.reduceNeg, Int.reduceAdd, Int.reduceMul, Int.reduceSub, Nat.reduceEqDiff, Nat.reduceLT, Nat.reduceLeDiff, sFor, iSeq, srcOf, iSrc, pRange1, pRange2, iEnum', srcEn, q]
  · simp only [mkFn, sSeq, sNil, sBrk, sCnt, bindS, sExpr, sRet, sRetN, sIf, sSet, sSetIdx, sAug, sAsg, tgName, tgTup, tgSeq, R.bind, R.of, eVar, eC, eBin, eUn, eChain, tBool, tTru, truth, tNot', tAnd', tOr', tYes', eAnd, eOr, eNot, eIf, aNil, aCons, eTup, eLst, eCallB, eCall, eSl, oNone, oSome, pSl, pAdd, pSub, pMul_ok, pDiv, pMod, pNeg, pIAdd, pCmp, pEq, pNe, eqD, pIsN, pNotN, isNon, pIn, pNotIn, inD, pIdx, pLen, lenD, pAbs, pMax2, pMin2, pInt, pStr, pTuple, pList, pIsi, isiD, eMeth, tyD, pAppend, pCount, pRfind, pSIndex, pJoin, seqOf, Option.map_some, Option.map_none, Option.bind_some, Option.bind_none, Option.bind_eq_bind, Option.pure_def, List.getElem?_cons_zero, List.getElem?_cons_succ, List.getElem?_nil, List.set_cons_zero, List.set_cons_succ, List.set_nil, List.map_cons, List.map_nil, List.cons_append, List.nil_append, List.length_cons, List.length_nil, List.length_map, reduceIte, Bool.not_true, Bool.not_false, Bool.false_eq_true, decide_true, decide_false, Bool.and_true, Bool.true_and, beq_self_eq_true, Nat.zero_add, Option.isSome_some, sizeLine_v, Nat.reduceAdd, Int.cast_ofNat_Int, Int.natCast_zero, Int.natCast_one, Int.reduceEq, Int.reduceLT, Int.reduceLE, Int.reduceNeg, Int.reduceAdd, Int.reduceMul, Int.reduceSub, Nat.reduceEqDiff, Nat.reduceLT, Nat.reduceLeDiff, sFor, iSeq, srcOf, iSrc, pRange1, pRange2, iEnum', srcEn, q, Bool.false_and]
theorem int_in_bl (b : Bool) (lo hi : Int) (h : HH) : fn_is_int_in [.bl b, .int lo, .int hi] h = .ok (.bl false) h := by
  unfold fn_is_int_in b_is_int_in fn_is_int b_is_int
  simp only [mkFn, sSeq, sNil, sBrk, sCnt, bindS, sExpr, sRet, sRetN, sIf, sSet, sSetIdx, sAug, sAsg, tgName, tgTup, tgSeq, R.bind, R.of, eVar, eC, eBin, eUn, eChain, tBool, tTru, truth, tNot', tAnd', tOr', tYes', eAnd, eOr, eNot, eIf, aNil, aCons, eTup, eLst, eCallB, eCall, eSl, oNone, oSome, pSl, pAdd, pSub, pMul_ok, pDiv, pMod, pNeg, pIAdd, pCmp, pEq, pNe, eqD, pIsN, pNotN, isNon, pIn, pNotIn, inD, pIdx, pLen, lenD, pAbs, pMax2, pMin2, pInt, pStr, pTuple, pList, pIsi, isiD, eMeth, tyD, pAppend, pCount, pRfind, pSIndex, pJoin, seqOf, Option.map_some, Option.map_none, Option.bind_some, Option.bind_none, Option.bind_eq_bind, Option.pure_def, List.getElem?_cons_zero, List.getElem?_cons_succ, List.getElem?_nil, List.set_cons_zero, List.set_cons_succ, List.set_nil, List.map_cons, List.map_nil, List.cons_append, List.nil_append, List.length_cons, List.length_nil, List.length_map, reduceIte, Bool.not_true, Bool.not_false, Bool.false_eq_true, decide_true, decide_false, Bool.and_true, Bool.true_and, beq_self_eq_true, Nat.zero_add, Option.isSome_some, sizeLine_v, Nat.reduceAdd, Int.cast_ofNat_Int, Int.natCast_zero, Int.natCast_one, Int.reduceEq, Int.reduceLT, Int.reduceLE, Int.reduceNeg, Int.reduceAdd, Int.reduceMul, Int.reduceSub, Nat.reduceEqDiff, Nat.reduceLT, Nat.reduceLeDiff, sFor, iSeq, srcOf, iSrc, pRange1, pRange2, iEnum', srcEn]
theorem isev_ok {e : Ev} (v : e.valid) (h : HH) : fn_is_event [e.row] h = .ok (.bl true) h := by
  obtain ⟨t, k, n⟩ := e
  have ht : t ≤ 400 := v.1
  unfold fn_is_event b_is_event Ev.row Ev.num
  have d1 : decide ((0 : Int) ≤ (t : Int)) = true := by simp
  have d2 : decide ((t : Int) ≤ 400) = true := by simp; omega
  rcases v.2 with ⟨hk, m, hn, hm⟩ | ⟨hk, hn⟩
  · dsimp only at hk hn
    subst hn
    have d3 : decide ((0 : Int) ≤ (m : Int)) = true := by simp
    have d4 : decide ((m : Int) ≤ 39) = true := by simp; omega
    have hk' : k = 0 ∨ k = 1 ∨ k = 2 ∨ k = 3 ∨ k = 4 ∨ k = 5 := by omega
    rcases hk' with rfl | rfl | rfl | rfl | rfl | rfl <;> (simp only [mkFn, sSeq, sNil, sBrk, sCnt, bindS, sExpr, sRet, sRetN, sIf, sSet, sSetIdx, sAug, sAsg, tgName, tgTup, tgSeq, R.bind, R.of, eVar, eC, eBin, eUn, eChain, tBool, tTru, truth, tNot', tAnd', tOr', tYes', eAnd, eOr, eNot, eIf, aNil, aCons, eTup, eLst, eCallB, eCall, eSl, oNone, oSome, pSl, pAdd, pSub, pMul_ok, pDiv, pMod, pNeg, pIAdd, pCmp, pEq, pNe, eqD, pIsN, pNotN, isNon, pIn, pNotIn, inD, pIdx, pLen, lenD, pAbs, pMax2, pMin2, pInt, pStr, pTuple, pList, pIsi, isiD, eMeth, tyD, pAppend, pCount, pRfind, pSIndex, pJoin, seqOf, Option.map_some, Option.map_none, Option.bind_some, Option.bind_none, Option.bind_eq_bind, Option.pure_def, List.getElem?_cons_zero, List.getElem?_cons_succ, List.getElem?_nil, List.set_cons_zero, List.set_cons_succ, List.set_nil, List.map_cons, List.map_nil, List.cons_append, List.nil_append, List.length_cons, List.length_nil, List.length_map, reduceIte, Bool.not_true, Bool.not_false, Bool.false_eq_true, decide_true, decide_false, Bool.and_true, Bool.true_and, beq_self_eq_true, Nat.zero_add, Option.isSome_some, sizeLine_v, Nat.reduceAdd, Int.cast_ofNat_Int, Int.natCast_zero, Int.natCast_one, Int.reduceEq, Int.reduceLT, Int.reduceLE, Int.reduceNeg, Int.reduceAdd, Int.reduceMul, Int.reduceSub, Nat.reduceEqDiff, Nat.reduceLT, Nat.reduceLeDiff, sFor, iSeq, srcOf, iSrc, pRange1, pRange2, iEnum', srcEn, int_in, d1, d2, d3, d4, wd, endK, ended, List.getD_cons_zero, List.getD_cons_succ, List.dropLast_cons₂, List.dropLast_singleton, flatD, eqF, List.all_cons, List.all_nil, List.any_cons, List.any_nil, List.cons_beq_cons, Nat.reduceBEq, Bool.false_and, Bool.or_false, Bool.or_true, Bool.true_or, Bool.false_or, and_self])
  · dsimp only at hk hn
    subst hn
    rcases hk with rfl | rfl <;> (simp only [mkFn, sSeq, sNil, sBrk, sCnt, bindS, sExpr, sRet, sRetN, sIf, sSet, sSetIdx, sAug, sAsg, tgName, tgTup, tgSeq, R.bind, R.of, eVar, eC, eBin, eUn, eChain, tBool, tTru, truth, tNot', tAnd', tOr', tYes', eAnd, eOr, eNot, eIf, aNil, aCons, eTup, eLst, eCallB, eCall, eSl, oNone, oSome, pSl, pAdd, pSub, pMul_ok, pDiv, pMod, pNeg, pIAdd, pCmp, pEq, pNe, eqD, pIsN, pNotN, isNon, pIn, pNotIn, inD, pIdx, pLen, lenD, pAbs, pMax2, pMin2, pInt, pStr, pTuple, pList, pIsi, isiD, eMeth, tyD, pAppend, pCount, pRfind, pSIndex, pJoin, seqOf, Option.map_some, Option.map_none, Option.bind_some, Option.bind_none, Option.bind_eq_bind, Option.pure_def, List.getElem?_cons_zero, List.getElem?_cons_succ, List.getElem?_nil, List.set_cons_zero, List.set_cons_succ, List.set_nil, List.map_cons, List.map_nil, List.cons_append, List.nil_append, List.length_cons, List.length_nil, List.length_map, reduceIte, Bool.not_true, Bool.not_false, Bool.false_eq_true, decide_true, decide_false, Bool.and_true, Bool.true_and, beq_self_eq_true, Nat.zero_add, Option.isSome_some, sizeLine_v, Nat.reduceAdd, Int.cast_ofNat_Int, Int.natCast_zero, Int.natCast_one, Int.reduceEq, Int.reduceLT, Int.reduceLE, Int.reduceNeg, Int.reduceAdd, Int.reduceMul, Int.reduceSub, Nat.reduceEqDiff, Nat.reduceLT, Nat.reduceLeDiff, sFor, iSeq, srcOf, iSrc, pRange1, pRange2, iEnum', srcEn, int_in, d1, d2, wd, endK, ended, List.getD_cons_zero, List.getD_cons_succ, List.dropLast_cons₂, List.dropLast_singleton, flatD, eqF, List.all_cons, List.all_nil, List.any_cons, List.any_nil, List.cons_beq_cons, Nat.reduceBEq, Bool.false_and, Bool.or_false, Bool.or_true, Bool.true_or, Bool.false_or, and_self, Int.reduceNeg, Int.le_refl])
end T75
set_option Elab.async false
set_option linter.all false
set_option maxRecDepth 100000
set_option maxHeartbeats 4000000
namespace T75
open PySem PySem.Spec PyProof.Rows L2 Py
theorem asc_get : ∀ {E : List Ev} {low i : Nat} {e : Ev}, Asc low E → E[i]? = some e → lastT low (E.take i) ≤ e.t ∧ e.valid
  | [], _, _, _, _, h => by simp at h
  | f :: es, low, 0, e, a, h => by
    obtain rfl : f = e := by simpa using h
    exact ⟨a.1, a.2.1⟩
  | f :: es, low, i + 1, e, a, h => by
    have := asc_get a.2.2 (i := i) (e := e) (by simpa using h)
    have q : lastT low ((f :: es).take (i + 1)) = lastT f.t (es.take i) := by
      rw [List.take_succ_cons]
      unfold lastT
      cases es.take i with
      | nil => rfl
      | cons g gs => simp [List.getLast?_cons]
    rw [q]
    exact this
theorem take_snoc {E : List Ev} {i : Nat} {e : Ev} (h : E[i]? = some e) : E.take (i + 1) = E.take i ++ [e] := by rw [List.take_add_one, h]; rfl
theorem asc_take : ∀ {E : List Ev} {low i : Nat}, Asc low E → Asc low (E.take i)
  | [], _, _, _ => by simp [Asc]
  | f :: es, low, 0, _ => trivial
  | f :: es, low, i + 1, a => ⟨a.1, a.2.1, asc_take a.2.2⟩
theorem asc_valid {E : List Ev} {low : Nat} (a : Asc low E) {e : Ev} (h : e ∈ E) : e.valid := by
  obtain ⟨i, hi⟩ := List.getElem?_of_mem h
  exact (asc_get a hi).2
/-- one event is checked -/
theorem check_step {e : Ev} {h : HH} {x y : Option D} {b : Nat} {q : D} (v : e.valid) (hb : b ≤ e.t) : p_check_log_1 [some q, some (.int b), x, some e.row] h = .nx [some q, some (.int e.t), x, some e.row] h := by
  have := isev_ok v h
  have d : ¬ (e.t : Int) < b := by omega
  unfold Ev.row at this ⊢
  simp only [mkFn, sSeq, sNil, sBrk, sCnt, bindS, sExpr, sRet, sRetN, sIf, sSet, sSetIdx, sAug, sAsg, tgName, tgTup, tgSeq, R.bind, R.of, eVar, eC, eBin, eUn, eChain, tBool, tTru, truth, tNot', tAnd', tOr', tYes', eAnd, eOr, eNot, eIf, aNil, aCons, eTup, eLst, eCallB, eCall, eSl, oNone, oSome, pSl, pAdd, pSub, pMul_ok, pDiv, pMod, pNeg, pIAdd, pCmp, pEq, pNe, eqD, pIsN, pNotN, isNon, pIn, pNotIn, inD, pIdx, pLen, lenD, pAbs, pMax2, pMin2, pInt, pStr, pTuple, pList, pIsi, isiD, eMeth, tyD, pAppend, pCount, pRfind, pSIndex, pJoin, seqOf, Option.map_some, Option.map_none, Option.bind_some, Option.bind_none, Option.bind_eq_bind, Option.pure_def, List.getElem?_cons_zero, List.getElem?_cons_succ, List.getElem?_nil, List.set_cons_zero, List.set_cons_succ, List.set_nil, List.map_cons, List.map_nil, List.cons_append, List.nil_append, List.length_cons, List.length_nil, List.length_map, reduceIte, Bool.not_true, Bool.not_false, Bool.false_eq_true, decide_true, decide_false, Bool.and_true, Bool.true_and, beq_self_eq_true, Nat.zero_add, Option.isSome_some, sizeLine_v, Nat.reduceAdd, Int.cast_ofNat_Int, Int.natCast_zero, Int.natCast_one, Int.reduceEq, Int.reduceLT, Int.reduceLE, Int.reduceNeg, Int.reduceAdd, Int.reduceMul, Int.reduceSub, Nat.reduceEqDiff, Nat.reduceLT, Nat.reduceLeDiff, sFor, iSeq, srcOf, iSrc, pRange1, pRange2, iEnum', srcEn, p_check_log_1, this, at30, d]
theorem check_ok {E : List Ev} (a : Asc 0 E) (h : HH) : fn_check_log [.tup (E.map Ev.row)] h = .ok .non h := by
  unfold fn_check_log b_check_log
  simp only [mkFn, sSeq, sNil, sBrk, sCnt, bindS, sExpr, sRet, sRetN, sIf, sSet, sSetIdx, sAug, sAsg, tgName, tgTup, tgSeq, R.bind, R.of, eVar, eC, eBin, eUn, eChain, tBool, tTru, truth, tNot', tAnd', tOr', tYes', eAnd, eOr, eNot, eIf, aNil, aCons, eTup, eLst, eCallB, eCall, eSl, oNone, oSome, pSl, pAdd, pSub, pMul_ok, pDiv, pMod, pNeg, pIAdd, pCmp, pEq, pNe, eqD, pIsN, pNotN, isNon, pIn, pNotIn, inD, pIdx, pLen, lenD, pAbs, pMax2, pMin2, pInt, pStr, pTuple, pList, pIsi, isiD, eMeth, tyD, pAppend, pCount, pRfind, pSIndex, pJoin, seqOf, Option.map_some, Option.map_none, Option.bind_some, Option.bind_none, Option.bind_eq_bind, Option.pure_def, List.getElem?_cons_zero, List.getElem?_cons_succ, List.getElem?_nil, List.set_cons_zero, List.set_cons_succ, List.set_nil, List.map_cons, List.map_nil, List.cons_append, List.nil_append, List.length_cons, List.length_nil, List.length_map, reduceIte, Bool.not_true, Bool.not_false, Bool.false_eq_true, decide_true, decide_false, Bool.and_true, Bool.true_and, beq_self_eq_true, Nat.zero_add, Option.isSome_some, sizeLine_v, Nat.reduceAdd, Int.cast_ofNat_Int, Int.natCast_zero, Int.natCast_one, Int.reduceEq, Int.reduceLT, Int.reduceLE, Int.reduceNeg, Int.reduceAdd, Int.reduceMul, Int.reduceSub, Nat.reduceEqDiff, Nat.reduceLT, Nat.reduceLeDiff, sFor, iSeq, srcOf, iSrc, pRange1, pRange2, iEnum', srcEn]
  generalize ho : forL _ _ _ _ _ _ = o
  obtain ⟨ρ', e⟩ : ∃ ρ', o = .nx ρ' h := by
    refine forL_run ho (fun i ρ h' => ∃ x y, ρ = [some (.tup (E.map Ev.row)), some (.int (lastT 0 (E.take i))), x, y] ∧ h' = h) (fun o => ∃ ρ', o = .nx ρ' h) ?_ ?_ ⟨none, none, rfl, rfl⟩
    · rintro i d ρ h' hi ⟨x, y, rfl, rfl⟩
      obtain ⟨r, hr, rfl⟩ := pairsD_at hi
      rw [List.getElem?_map] at hr
      cases he : E[i]? with
      | none => rw [he] at hr; simp at hr
      | some e =>
        rw [he] at hr
        obtain rfl : e.row = r := by simpa using hr
        obtain ⟨q1, q2⟩ := asc_get a he
        refine ⟨trivial, [some (.tup (E.map Ev.row)), some (.int (lastT 0 (E.take i))), some (.int i), some e.row], by simp only [mkFn, sSeq, sNil, sBrk, sCnt, bindS, sExpr, sRet, sRetN, sIf, sSet, sSetIdx, sAug, sAsg, tgName, tgTup, tgSeq, R.bind, R.of, eVar, eC, eBin, eUn, eChain, tBool, tTru, truth, tNot', tAnd', tOr', tYes', eAnd, eOr, eNot, eIf, aNil, aCons, eTup, eLst, eCallB, eCall, eSl, oNone, oSome, pSl, pAdd, pSub, pMul_ok, pDiv, pMod, pNeg, pIAdd, pCmp, pEq, pNe, eqD, pIsN, pNotN, isNon, pIn, pNotIn, inD, pIdx, pLen, lenD, pAbs, pMax2, pMin2, pInt, pStr, pTuple, pList, pIsi, isiD, eMeth, tyD, pAppend, pCount, pRfind, pSIndex, pJoin, seqOf, Option.map_some, Option.map_none, Option.bind_some, Option.bind_none, Option.bind_eq_bind, Option.pure_def, List.getElem?_cons_zero, List.getElem?_cons_succ, List.getElem?_nil, List.set_cons_zero, List.set_cons_succ, List.set_nil, List.map_cons, List.map_nil, List.cons_append, List.nil_append, List.length_cons, List.length_nil, List.length_map, reduceIte, Bool.not_true, Bool.not_false, Bool.false_eq_true, decide_true, decide_false, Bool.and_true, Bool.true_and, beq_self_eq_true, Nat.zero_add, Option.isSome_some, sizeLine_v, Nat.reduceAdd, Int.cast_ofNat_Int, Int.natCast_zero, Int.natCast_one, Int.reduceEq, Int.reduceLT, Int.reduceLE, Int.reduceNeg, Int.reduceAdd, Int.reduceMul, Int.reduceSub, Nat.reduceEqDiff, Nat.reduceLT, Nat.reduceLeDiff, sFor, iSeq, srcOf, iSrc, pRange1, pRange2, iEnum', srcEn], ?_⟩
        rw [check_step (x := some (.int i)) (y := none) q2 q1]
        exact ⟨_, _, by rw [take_snoc he, lastT_snoc], rfl⟩
    · rintro ρ h' ⟨x, y, rfl, rfl⟩
      exact ⟨trivial, _, rfl⟩
  subst e
  rfl
/-- an entry that is no event, or comes too early -/
def BadE (b : Nat) (d : D) : Prop := ∀ h, fn_is_event [d] h = .ok (.bl false) h ∨ ∃ t x y, d = .tup [.int t, x, y] ∧ fn_is_event [d] h = .ok (.bl true) h ∧ t < b
theorem check_bad {E : List Ev} {d : D} {post : List D} (a : Asc 0 E) (bad : BadE (lastT 0 E) d) (h : HH) : fn_check_log [.tup (E.map Ev.row ++ d :: post)] h = .ex "BadBook" [("part", .int E.length)] h := by
  unfold fn_check_log b_check_log
  simp only [mkFn, sSeq, sNil, sBrk, sCnt, bindS, sExpr, sRet, sRetN, sIf, sSet, sSetIdx, sAug, sAsg, tgName, tgTup, tgSeq, R.bind, R.of, eVar, eC, eBin, eUn, eChain, tBool, tTru, truth, tNot', tAnd', tOr', tYes', eAnd, eOr, eNot, eIf, aNil, aCons, eTup, eLst, eCallB, eCall, eSl, oNone, oSome, pSl, pAdd, pSub, pMul_ok, pDiv, pMod, pNeg, pIAdd, pCmp, pEq, pNe, eqD, pIsN, pNotN, isNon, pIn, pNotIn, inD, pIdx, pLen, lenD, pAbs, pMax2, pMin2, pInt, pStr, pTuple, pList, pIsi, isiD, eMeth, tyD, pAppend, pCount, pRfind, pSIndex, pJoin, seqOf, Option.map_some, Option.map_none, Option.bind_some, Option.bind_none, Option.bind_eq_bind, Option.pure_def, List.getElem?_cons_zero, List.getElem?_cons_succ, List.getElem?_nil, List.set_cons_zero, List.set_cons_succ, List.set_nil, List.map_cons, List.map_nil, List.cons_append, List.nil_append, List.length_cons, List.length_nil, List.length_map, reduceIte, Bool.not_true, Bool.not_false, Bool.false_eq_true, decide_true, decide_false, Bool.and_true, Bool.true_and, beq_self_eq_true, Nat.zero_add, Option.isSome_some, sizeLine_v, Nat.reduceAdd, Int.cast_ofNat_Int, Int.natCast_zero, Int.natCast_one, Int.reduceEq, Int.reduceLT, Int.reduceLE, Int.reduceNeg, Int.reduceAdd, Int.reduceMul, Int.reduceSub, Nat.reduceEqDiff, Nat.reduceLT, Nat.reduceLeDiff, sFor, iSeq, srcOf, iSrc, pRange1, pRange2, iEnum', srcEn]
  generalize ho : forL _ _ _ _ _ _ = o
  have hx : ∃ ρ', o = .ex "BadBook" [("part", .int E.length)] ρ' h := by
    refine forL_run ho (fun i ρ h' => i ≤ E.length ∧ ∃ x y, ρ = [some (.tup (E.map Ev.row ++ d :: post)), some (.int (lastT 0 (E.take i))), x, y] ∧ h' = h) (fun o => ∃ ρ', o = .ex "BadBook" [("part", .int E.length)] ρ' h) ?_ ?_ ⟨Nat.zero_le _, none, none, rfl, rfl⟩
    · rintro i dd ρ h' hi ⟨hl, x, y, rfl, rfl⟩
      obtain ⟨r, hr, rfl⟩ := pairsD_at hi
      refine ⟨trivial, [some (.tup (E.map Ev.row ++ d :: post)), some (.int (lastT 0 (E.take i))), some (.int i), some r], by simp only [mkFn, sSeq, sNil, sBrk, sCnt, bindS, sExpr, sRet, sRetN, sIf, sSet, sSetIdx, sAug, sAsg, tgName, tgTup, tgSeq, R.bind, R.of, eVar, eC, eBin, eUn, eChain, tBool, tTru, truth, tNot', tAnd', tOr', tYes', eAnd, eOr, eNot, eIf, aNil, aCons, eTup, eLst, eCallB, eCall, eSl, oNone, oSome, pSl, pAdd, pSub, pMul_ok, pDiv, pMod, pNeg, pIAdd, pCmp, pEq, pNe, eqD, pIsN, pNotN, isNon, pIn, pNotIn, inD, pIdx, pLen, lenD, pAbs, pMax2, pMin2, pInt, pStr, pTuple, pList, pIsi, isiD, eMeth, tyD, pAppend, pCount, pRfind, pSIndex, pJoin, seqOf, Option.map_some, Option.map_none, Option.bind_some, Option.bind_none, Option.bind_eq_bind, Option.pure_def, List.getElem?_cons_zero, List.getElem?_cons_succ, List.getElem?_nil, List.set_cons_zero, List.set_cons_succ, List.set_nil, List.map_cons, List.map_nil, List.cons_append, List.nil_append, List.length_cons, List.length_nil, List.length_map, reduceIte, Bool.not_true, Bool.not_false, Bool.false_eq_true, decide_true, decide_false, Bool.and_true, Bool.true_and, beq_self_eq_true, Nat.zero_add, Option.isSome_some, sizeLine_v, Nat.reduceAdd, Int.cast_ofNat_Int, Int.natCast_zero, Int.natCast_one, Int.reduceEq, Int.reduceLT, Int.reduceLE, Int.reduceNeg, Int.reduceAdd, Int.reduceMul, Int.reduceSub, Nat.reduceEqDiff, Nat.reduceLT, Nat.reduceLeDiff, sFor, iSeq, srcOf, iSrc, pRange1, pRange2, iEnum', srcEn], ?_⟩
      by_cases hil : i < E.length
      · rw [List.getElem?_append_left (by simpa using hil), List.getElem?_map, List.getElem?_eq_getElem hil] at hr
        obtain rfl : (E[i]).row = r := by simpa using hr
        obtain ⟨q1, q2⟩ := asc_get a (List.getElem?_eq_getElem hil)
        rw [check_step (x := some (.int i)) (y := none) q2 q1]
        exact ⟨by omega, _, _, by rw [take_snoc (List.getElem?_eq_getElem hil), lastT_snoc], rfl⟩
      · obtain rfl : i = E.length := by omega
        rw [List.getElem?_append_right (by simp)] at hr
        obtain rfl : d = r := by simpa using hr
        rw [List.take_length]
        rcases bad h' with hb | ⟨t, x, y, rfl, hb, ht⟩
        · simp only [mkFn, sSeq, sNil, sBrk, sCnt, bindS, sExpr, sRet, sRetN, sIf, sSet, sSetIdx, sAug, sAsg, tgName, tgTup, tgSeq, R.bind, R.of, eVar, eC, eBin, eUn, eChain, tBool, tTru, truth, tNot', tAnd', tOr', tYes', eAnd, eOr, eNot, eIf, aNil, aCons, eTup, eLst, eCallB, eCall, eSl, oNone, oSome, pSl, pAdd, pSub, pMul_ok, pDiv, pMod, pNeg, pIAdd, pCmp, pEq, pNe, eqD, pIsN, pNotN, isNon, pIn, pNotIn, inD, pIdx, pLen, lenD, pAbs, pMax2, pMin2, pInt, pStr, pTuple, pList, pIsi, isiD, eMeth, tyD, pAppend, pCount, pRfind, pSIndex, pJoin, seqOf, Option.map_some, Option.map_none, Option.bind_some, Option.bind_none, Option.bind_eq_bind, Option.pure_def, List.getElem?_cons_zero, List.getElem?_cons_succ, List.getElem?_nil, List.set_cons_zero, List.set_cons_succ, List.set_nil, List.map_cons, List.map_nil, List.cons_append, List.nil_append, List.length_cons, List.length_nil, List.length_map, reduceIte, Bool.not_true, Bool.not_false, Bool.false_eq_true, decide_true, decide_false, Bool.and_true, Bool.true_and, beq_self_eq_true, Nat.zero_add, Option.isSome_some, sizeLine_v, Nat.reduceAdd, Int.cast_ofNat_Int, Int.natCast_zero, Int.natCast_one, Int.reduceEq, Int.reduceLT, Int.reduceLE, Int.reduceNeg, Int.reduceAdd, Int.reduceMul, Int.reduceSub, Nat.reduceEqDiff, Nat.reduceLT, Nat.reduceLeDiff, sFor, iSeq, srcOf, iSrc, pRange1, pRange2, iEnum', srcEn, p_check_log_1, hb, sRaise]
          exact ⟨_, rfl⟩
        · simp only [mkFn, sSeq, sNil, sBrk, sCnt, bindS, sExpr, sRet, sRetN, sIf, sSet, sSetIdx, sAug, sAsg, tgName, tgTup, tgSeq, R.bind, R.of, eVar, eC, eBin, eUn, eChain, tBool, tTru, truth, tNot', tAnd', tOr', tYes', eAnd, eOr, eNot, eIf, aNil, aCons, eTup, eLst, eCallB, eCall, eSl, oNone, oSome, pSl, pAdd, pSub, pMul_ok, pDiv, pMod, pNeg, pIAdd, pCmp, pEq, pNe, eqD, pIsN, pNotN, isNon, pIn, pNotIn, inD, pIdx, pLen, lenD, pAbs, pMax2, pMin2, pInt, pStr, pTuple, pList, pIsi, isiD, eMeth, tyD, pAppend, pCount, pRfind, pSIndex, pJoin, seqOf, Option.map_some, Option.map_none, Option.bind_some, Option.bind_none, Option.bind_eq_bind, Option.pure_def, List.getElem?_cons_zero, List.getElem?_cons_succ, List.getElem?_nil, List.set_cons_zero, List.set_cons_succ, List.set_nil, List.map_cons, List.map_nil, List.cons_append, List.nil_append, List.length_cons, List.length_nil, List.length_map, reduceIte, Bool.not_true, Bool.not_false, Bool.false_eq_true, decide_true, decide_false, Bool.and_true, Bool.true_and, beq_self_eq_true, Nat.zero_add, Option.isSome_some, sizeLine_v, Nat.reduceAdd, Int.cast_ofNat_Int, Int.natCast_zero, Int.natCast_one, Int.reduceEq, Int.reduceLT, Int.reduceLE, Int.reduceNeg, Int.reduceAdd, Int.reduceMul, Int.reduceSub, Nat.reduceEqDiff, Nat.reduceLT, Nat.reduceLeDiff, sFor, iSeq, srcOf, iSrc, pRange1, pRange2, iEnum', srcEn, p_check_log_1, hb, sRaise, at30, ht]
          exact ⟨_, rfl⟩
    · rintro ρ h' ⟨hl, x, y, rfl, rfl⟩
      rw [pairsD_len] at hl
      simp at hl
      omega
  obtain ⟨ρ', e⟩ := hx
  subst e
  rfl
theorem joinS_nil : ∀ ls : List (List Nat), joinS [] ls = ls.flatten
  | [] => rfl
  | [x] => by simp [joinS]
  | x :: y :: r => by
    unfold joinS
    rw [joinS_nil (y :: r)]
    simp
theorem strs_map {α : Type} (f : α → List Nat) : ∀ E : List α, strsOf (E.map fun e => D.str (f e)) = some (E.map f)
  | [] => rfl
  | e :: es => by
    rw [List.map_cons]
    unfold strsOf
    rw [strs_map f es]
    rfl
theorem lns_len {E : List Ev} {low : Nat} (a : Asc low E) : (lns E).length ≤ 20 * E.length := by
  induction E generalizing low with
  | nil => simp [lns]
  | cons e es ih =>
    have := ih a.2.2
    have := line_len a.2.1
    rw [lns_cons, List.length_append, List.length_cons]
    omega
theorem lns_sum (E : List Ev) : ((E.map Ev.line).map List.length).sum = (lns E).length := by
  unfold lns
  rw [List.length_flatten]
theorem write_ok {E : List Ev} (a : Asc 0 E) (hl : E.length ≤ 300) (h : HH) : fn_write_log [.tup (E.map Ev.row)] h = .ok (.str (lns E)) (h ++ [.lst (E.map fun e => .str e.line)]) := by
  unfold fn_write_log b_write_log
  have hc := check_ok a h
  have cm := compL_new (gd := fun _ => True) (g := tgName 1) (e := p_write_log_1) (ρ := [some (.tup (E.map Ev.row)), none]) (h := h) Ev.row (fun e => .str e.line) E (fun e he h' => by
    obtain ⟨b, e1, e2, e3⟩ := wevent_ok (asc_valid a he) h'
    refine ⟨[some (.tup (E.map Ev.row)), some e.row], rfl, ?_⟩
    rw [e1]
    simp (disch := omega) only [mkFn, sSeq, sNil, sBrk, sCnt, bindS, sExpr, sRet, sRetN, sIf, sSet, sSetIdx, sAug, sAsg, tgName, tgTup, tgSeq, R.bind, R.of, eVar, eC, eBin, eUn, eChain, tBool, tTru, truth, tNot', tAnd', tOr', tYes', eAnd, eOr, eNot, eIf, aNil, aCons, eTup, eLst, eCallB, eCall, eSl, oNone, oSome, pSl, pAdd, pSub, pMul_ok, pDiv, pMod, pNeg, pIAdd, pCmp, pEq, pNe, eqD, pIsN, pNotN, isNon, pIn, pNotIn, inD, pIdx, pLen, lenD, pAbs, pMax2, pMin2, pInt, pStr, pTuple, pList, pIsi, isiD, eMeth, tyD, pAppend, pCount, pRfind, pSIndex, pJoin, seqOf, Option.map_some, Option.map_none, Option.bind_some, Option.bind_none, Option.bind_eq_bind, Option.pure_def, List.getElem?_cons_zero, List.getElem?_cons_succ, List.getElem?_nil, List.set_cons_zero, List.set_cons_succ, List.set_nil, List.map_cons, List.map_nil, List.cons_append, List.nil_append, List.length_cons, List.length_nil, List.length_map, reduceIte, Bool.not_true, Bool.not_false, Bool.false_eq_true, decide_true, decide_false, Bool.and_true, Bool.true_and, beq_self_eq_true, Nat.zero_add, Option.isSome_some, sizeLine_v, Nat.reduceAdd, Int.cast_ofNat_Int, Int.natCast_zero, Int.natCast_one, Int.reduceEq, Int.reduceLT, Int.reduceLE, Int.reduceNeg, Int.reduceAdd, Int.reduceMul, Int.reduceSub, Nat.reduceEqDiff, Nat.reduceLT, Nat.reduceLeDiff, sFor, iSeq, srcOf, iSrc, pRange1, pRange2, iEnum', srcEn, if_pos, if_neg, p_write_log_1, e3]) (fun _ => trivial) (by rw [sizeLine_v]; omega)
  have it : itemsL (h ++ [.lst (E.map fun e => D.str e.line)]) h.length = some (E.map fun e => D.str e.line) := itemsL_lst get_app_new
  have ls := lns_len a
  have lsum := lns_sum E
  have bd : ((E.map Ev.line).map List.length).sum + E.length * 0 ≤ 16777216 := by rw [lsum]; omega
  simp only [mkFn, sSeq, sNil, sBrk, sCnt, bindS, sExpr, sRet, sRetN, sIf, sSet, sSetIdx, sAug, sAsg, tgName, tgTup, tgSeq, R.bind, R.of, eVar, eC, eBin, eUn, eChain, tBool, tTru, truth, tNot', tAnd', tOr', tYes', eAnd, eOr, eNot, eIf, aNil, aCons, eTup, eLst, eCallB, eCall, eSl, oNone, oSome, pSl, pAdd, pSub, pMul_ok, pDiv, pMod, pNeg, pIAdd, pCmp, pEq, pNe, eqD, pIsN, pNotN, isNon, pIn, pNotIn, inD, pIdx, pLen, lenD, pAbs, pMax2, pMin2, pInt, pStr, pTuple, pList, pIsi, isiD, eMeth, tyD, pAppend, pCount, pRfind, pSIndex, pJoin, seqOf, Option.map_some, Option.map_none, Option.bind_some, Option.bind_none, Option.bind_eq_bind, Option.pure_def, List.getElem?_cons_zero, List.getElem?_cons_succ, List.getElem?_nil, List.set_cons_zero, List.set_cons_succ, List.set_nil, List.map_cons, List.map_nil, List.cons_append, List.nil_append, List.length_cons, List.length_nil, List.length_map, reduceIte, Bool.not_true, Bool.not_false, Bool.false_eq_true, decide_true, decide_false, Bool.and_true, Bool.true_and, beq_self_eq_true, Nat.zero_add, Option.isSome_some, sizeLine_v, Nat.reduceAdd, Int.cast_ofNat_Int, Int.natCast_zero, Int.natCast_one, Int.reduceEq, Int.reduceLT, Int.reduceLE, Int.reduceNeg, Int.reduceAdd, Int.reduceMul, Int.reduceSub, Nat.reduceEqDiff, Nat.reduceLT, Nat.reduceLeDiff, sFor, iSeq, srcOf, iSrc, pRange1, pRange2, iEnum', srcEn, hc, eLc, wipeR, cm, it, strs_map, bd, beq_self_eq_true]
  rw [joinS_nil]
  rfl
theorem write_bad {E : List Ev} {d : D} {post : List D} (a : Asc 0 E) (bad : BadE (lastT 0 E) d) (h : HH) : fn_write_log [.tup (E.map Ev.row ++ d :: post)] h = .ex "BadBook" [("part", .int E.length)] h := by
  unfold fn_write_log b_write_log
  simp only [mkFn, sSeq, sNil, sBrk, sCnt, bindS, sExpr, sRet, sRetN, sIf, sSet, sSetIdx, sAug, sAsg, tgName, tgTup, tgSeq, R.bind, R.of, eVar, eC, eBin, eUn, eChain, tBool, tTru, truth, tNot', tAnd', tOr', tYes', eAnd, eOr, eNot, eIf, aNil, aCons, eTup, eLst, eCallB, eCall, eSl, oNone, oSome, pSl, pAdd, pSub, pMul_ok, pDiv, pMod, pNeg, pIAdd, pCmp, pEq, pNe, eqD, pIsN, pNotN, isNon, pIn, pNotIn, inD, pIdx, pLen, lenD, pAbs, pMax2, pMin2, pInt, pStr, pTuple, pList, pIsi, isiD, eMeth, tyD, pAppend, pCount, pRfind, pSIndex, pJoin, seqOf, Option.map_some, Option.map_none, Option.bind_some, Option.bind_none, Option.bind_eq_bind, Option.pure_def, List.getElem?_cons_zero, List.getElem?_cons_succ, List.getElem?_nil, List.set_cons_zero, List.set_cons_succ, List.set_nil, List.map_cons, List.map_nil, List.cons_append, List.nil_append, List.length_cons, List.length_nil, List.length_map, reduceIte, Bool.not_true, Bool.not_false, Bool.false_eq_true, decide_true, decide_false, Bool.and_true, Bool.true_and, beq_self_eq_true, Nat.zero_add, Option.isSome_some, sizeLine_v, Nat.reduceAdd, Int.cast_ofNat_Int, Int.natCast_zero, Int.natCast_one, Int.reduceEq, Int.reduceLT, Int.reduceLE, Int.reduceNeg, Int.reduceAdd, Int.reduceMul, Int.reduceSub, Nat.reduceEqDiff, Nat.reduceLT, Nat.reduceLeDiff, sFor, iSeq, srcOf, iSrc, pRange1, pRange2, iEnum', srcEn, check_bad a bad h]
theorem refused_ok {E : List Ev} {d : D} {post : List D} (a : Asc 0 E) (bad : BadE (lastT 0 E) d) (w : Bool) (h : HH) : fn__law_refused [.tup (E.map Ev.row ++ d :: post), .bl w] h = .ok (.int E.length) h := by
  unfold fn__law_refused b__law_refused
  cases w <;> simp only [mkFn, sSeq, sNil, sBrk, sCnt, bindS, sExpr, sRet, sRetN, sIf, sSet, sSetIdx, sAug, sAsg, tgName, tgTup, tgSeq, R.bind, R.of, eVar, eC, eBin, eUn, eChain, tBool, tTru, truth, tNot', tAnd', tOr', tYes', eAnd, eOr, eNot, eIf, aNil, aCons, eTup, eLst, eCallB, eCall, eSl, oNone, oSome, pSl, pAdd, pSub, pMul_ok, pDiv, pMod, pNeg, pIAdd, pCmp, pEq, pNe, eqD, pIsN, pNotN, isNon, pIn, pNotIn, inD, pIdx, pLen, lenD, pAbs, pMax2, pMin2, pInt, pStr, pTuple, pList, pIsi, isiD, eMeth, tyD, pAppend, pCount, pRfind, pSIndex, pJoin, seqOf, Option.map_some, Option.map_none, Option.bind_some, Option.bind_none, Option.bind_eq_bind, Option.pure_def, List.getElem?_cons_zero, List.getElem?_cons_succ, List.getElem?_nil, List.set_cons_zero, List.set_cons_succ, List.set_nil, List.map_cons, List.map_nil, List.cons_append, List.nil_append, List.length_cons, List.length_nil, List.length_map, reduceIte, Bool.not_true, Bool.not_false, Bool.false_eq_true, decide_true, decide_false, Bool.and_true, Bool.true_and, beq_self_eq_true, Nat.zero_add, Option.isSome_some, sizeLine_v, Nat.reduceAdd, Int.cast_ofNat_Int, Int.natCast_zero, Int.natCast_one, Int.reduceEq, Int.reduceLT, Int.reduceLE, Int.reduceNeg, Int.reduceAdd, Int.reduceMul, Int.reduceSub, Nat.reduceEqDiff, Nat.reduceLT, Nat.reduceLeDiff, sFor, iSeq, srcOf, iSrc, pRange1, pRange2, iEnum', srcEn, sTryRet, check_bad a bad h, write_bad a bad h, xF, List.lookup_cons]
end T75
set_option Elab.async false
set_option linter.all false
set_option maxRecDepth 100000
set_option maxHeartbeats 4000000
namespace T75
open PySem PySem.Spec PyProof.Rows L2 Py
theorem nat_add (a b : Nat) : (a : Int) + (b : Int) = ((a + b : Nat) : Int) := by omega
theorem nat_add1 (a : Nat) : (a : Int) + 1 = ((a + 1 : Nat) : Int) := by omega
theorem nat_lt (a b : Nat) : ((a : Int) < (b : Int)) = (a < b) := by simp
theorem nat_le (a b : Nat) : ((a : Int) ≤ (b : Int)) = (a ≤ b) := by simp
theorem nat_eq (a b : Nat) : ((a : Int) = (b : Int)) = (a = b) := propext ⟨fun h => by omega, fun h => by omega⟩
/-- what a refusal at p tells -/
def bl (t : List Nat) (p : Nat) : List (Str × D) := [("column", .int ((p : Int) - (match lastAt 10 (t.take p) with | some k => (k : Int) | none => -1))), ("line", .int (((t.take p).count 10 : Nat) + 1))]
theorem refuse_ok {t : List Nat} (ht : t.length ≤ 16777216) (p : Nat) (h : HH) : fn__refuse [.str t, .int p] h = .ex "BadLine" (bl t p) h := by
  unfold fn__refuse b__refuse
  simp only [mkFn, sSeq, sNil, sBrk, sCnt, bindS, sExpr, sRet, sRetN, sIf, sSet, sSetIdx, sAug, sAsg, tgName, tgTup, tgSeq, R.bind, R.of, eVar, eC, eBin, eUn, eChain, tBool, tTru, truth, tNot', tAnd', tOr', tYes', eAnd, eOr, eNot, eIf, aNil, aCons, eTup, eLst, eCallB, eCall, eSl, oNone, oSome, pSl, pAdd, pSub, pMul_ok, pDiv, pMod, pNeg, pIAdd, pCmp, pEq, pNe, eqD, pIsN, pNotN, isNon, pIn, pNotIn, inD, pIdx, pLen, lenD, pAbs, pMax2, pMin2, pInt, pStr, pTuple, pList, pIsi, isiD, eMeth, tyD, pAppend, pCount, pRfind, pSIndex, pJoin, seqOf, Option.map_some, Option.map_none, Option.bind_some, Option.bind_none, Option.bind_eq_bind, Option.pure_def, List.getElem?_cons_zero, List.getElem?_cons_succ, List.getElem?_nil, List.set_cons_zero, List.set_cons_succ, List.set_nil, List.map_cons, List.map_nil, List.cons_append, List.nil_append, List.length_cons, List.length_nil, List.length_map, reduceIte, Bool.not_true, Bool.not_false, Bool.false_eq_true, decide_true, decide_false, Bool.and_true, Bool.true_and, beq_self_eq_true, Nat.zero_add, Option.isSome_some, sizeLine_v, Nat.reduceAdd, Int.cast_ofNat_Int, Int.natCast_zero, Int.natCast_one, Int.reduceEq, Int.reduceLT, Int.reduceLE, Int.reduceNeg, Int.reduceAdd, Int.reduceMul, Int.reduceSub, Nat.reduceEqDiff, Nat.reduceLT, Nat.reduceLeDiff, sFor, iSeq, srcOf, iSrc, pRange1, pRange2, iEnum', srcEn, ht, cutL_take, sRaise, List.zip_cons_cons, List.zip_nil_left, List.reverse_cons, List.reverse_nil, beq_self_eq_true]
  rfl
/-! ### the loop of _can_begin -/
theorem cb_step (n lo hi least most : Int) (h : HH) : sWhile p__can_begin_1 p__can_begin_2 [some (.int n), some (.int lo), some (.int hi), some (.int least), some (.int most)] h =
    if least ≤ hi then (if lo ≤ most then .rt (.bl true) h else if n = 0 then .rt (.bl false) h else sWhile p__can_begin_1 p__can_begin_2 [some (.int n), some (.int lo), some (.int hi), some (.int (least * 10)), some (.int (most * 10 + 9))] h)
    else .nx [some (.int n), some (.int lo), some (.int hi), some (.int least), some (.int most)] h := by
  rw [sWhile_eq]
  have c1 : CMul least 10 := .inr (by decide)
  have c2 : CMul most 10 := .inr (by decide)
  by_cases q1 : least ≤ hi
  · by_cases q2 : lo ≤ most
    · simp only [mkFn, sSeq, sNil, sBrk, sCnt, bindS, sExpr, sRet, sRetN, sIf, sSet, sSetIdx, sAug, sAsg, tgName, tgTup, tgSeq, R.bind, R.of, eVar, eC, eBin, eUn, eChain, tBool, tTru, truth, tNot', tAnd', tOr', tYes', eAnd, eOr, eNot, eIf, aNil, aCons, eTup, eLst, eCallB, eCall, eSl, oNone, oSome, pSl, pAdd, pSub, pMul_ok, pDiv, pMod, pNeg, pIAdd, pCmp, pEq, pNe, eqD, pIsN, pNotN, isNon, pIn, pNotIn, inD, pIdx, pLen, lenD, pAbs, pMax2, pMin2, pInt, pStr, pTuple, pList, pIsi, isiD, eMeth, tyD, pAppend, pCount, pRfind, pSIndex, pJoin, seqOf, Option.map_some, Option.map_none, Option.bind_some, Option.bind_none, Option.bind_eq_bind, Option.pure_def, List.getElem?_cons_zero, List.getElem?_cons_succ, List.getElem?_nil, List.set_cons_zero, List.set_cons_succ, List.set_nil, List.map_cons, List.map_nil, List.cons_append, List.nil_append, List.length_cons, List.length_nil, List.length_map, reduceIte, Bool.not_true, Bool.not_false, Bool.false_eq_true, decide_true, decide_false, Bool.and_true, Bool.true_and, beq_self_eq_true, Nat.zero_add, Option.isSome_some, sizeLine_v, Nat.reduceAdd, Int.cast_ofNat_Int, Int.natCast_zero, Int.natCast_one, Int.reduceEq, Int.reduceLT, Int.reduceLE, Int.reduceNeg, Int.reduceAdd, Int.reduceMul, Int.reduceSub, Nat.reduceEqDiff, Nat.reduceLT, Nat.reduceLeDiff, sFor, iSeq, srcOf, iSrc, pRange1, pRange2, iEnum', srcEn, p__can_begin_1, p__can_begin_2, q1, q2]
    · by_cases q3 : n = 0
      · simp only [mkFn, sSeq, sNil, sBrk, sCnt, bindS, sExpr, sRet, sRetN, sIf, sSet, sSetIdx, sAug, sAsg, tgName, tgTup, tgSeq, R.bind, R.of, eVar, eC, eBin, eUn, eChain, tBool, tTru, truth, tNot', tAnd', tOr', tYes', eAnd, eOr, eNot, eIf, aNil, aCons, eTup, eLst, eCallB, eCall, eSl, oNone, oSome, pSl, pAdd, pSub, pMul_ok, pDiv, pMod, pNeg, pIAdd, pCmp, pEq, pNe, eqD, pIsN, pNotN, isNon, pIn, pNotIn, inD, pIdx, pLen, lenD, pAbs, pMax2, pMin2, pInt, pStr, pTuple, pList, pIsi, isiD, eMeth, tyD, pAppend, pCount, pRfind, pSIndex, pJoin, seqOf, Option.map_some, Option.map_none, Option.bind_some, Option.bind_none, Option.bind_eq_bind, Option.pure_def, List.getElem?_cons_zero, List.getElem?_cons_succ, List.getElem?_nil, List.set_cons_zero, List.set_cons_succ, List.set_nil, List.map_cons, List.map_nil, List.cons_append, List.nil_append, List.length_cons, List.length_nil, List.length_map, reduceIte, Bool.not_true, Bool.not_false, Bool.false_eq_true, decide_true, decide_false, Bool.and_true, Bool.true_and, beq_self_eq_true, Nat.zero_add, Option.isSome_some, sizeLine_v, Nat.reduceAdd, Int.cast_ofNat_Int, Int.natCast_zero, Int.natCast_one, Int.reduceEq, Int.reduceLT, Int.reduceLE, Int.reduceNeg, Int.reduceAdd, Int.reduceMul, Int.reduceSub, Nat.reduceEqDiff, Nat.reduceLT, Nat.reduceLeDiff, sFor, iSeq, srcOf, iSrc, pRange1, pRange2, iEnum', srcEn, p__can_begin_1, p__can_begin_2, q1, q2, q3]
      · simp only [mkFn, sSeq, sNil, sBrk, sCnt, bindS, sExpr, sRet, sRetN, sIf, sSet, sSetIdx, sAug, sAsg, tgName, tgTup, tgSeq, R.bind, R.of, eVar, eC, eBin, eUn, eChain, tBool, tTru, truth, tNot', tAnd', tOr', tYes', eAnd, eOr, eNot, eIf, aNil, aCons, eTup, eLst, eCallB, eCall, eSl, oNone, oSome, pSl, pAdd, pSub, pMul_ok, pDiv, pMod, pNeg, pIAdd, pCmp, pEq, pNe, eqD, pIsN, pNotN, isNon, pIn, pNotIn, inD, pIdx, pLen, lenD, pAbs, pMax2, pMin2, pInt, pStr, pTuple, pList, pIsi, isiD, eMeth, tyD, pAppend, pCount, pRfind, pSIndex, pJoin, seqOf, Option.map_some, Option.map_none, Option.bind_some, Option.bind_none, Option.bind_eq_bind, Option.pure_def, List.getElem?_cons_zero, List.getElem?_cons_succ, List.getElem?_nil, List.set_cons_zero, List.set_cons_succ, List.set_nil, List.map_cons, List.map_nil, List.cons_append, List.nil_append, List.length_cons, List.length_nil, List.length_map, reduceIte, Bool.not_true, Bool.not_false, Bool.false_eq_true, decide_true, decide_false, Bool.and_true, Bool.true_and, beq_self_eq_true, Nat.zero_add, Option.isSome_some, sizeLine_v, Nat.reduceAdd, Int.cast_ofNat_Int, Int.natCast_zero, Int.natCast_one, Int.reduceEq, Int.reduceLT, Int.reduceLE, Int.reduceNeg, Int.reduceAdd, Int.reduceMul, Int.reduceSub, Nat.reduceEqDiff, Nat.reduceLT, Nat.reduceLeDiff, sFor, iSeq, srcOf, iSrc, pRange1, pRange2, iEnum', srcEn, p__can_begin_1, p__can_begin_2, q1, q2, q3, c1, c2]
  · simp only [mkFn, sSeq, sNil, sBrk, sCnt, bindS, sExpr, sRet, sRetN, sIf, sSet, sSetIdx, sAug, sAsg, tgName, tgTup, tgSeq, R.bind, R.of, eVar, eC, eBin, eUn, eChain, tBool, tTru, truth, tNot', tAnd', tOr', tYes', eAnd, eOr, eNot, eIf, aNil, aCons, eTup, eLst, eCallB, eCall, eSl, oNone, oSome, pSl, pAdd, pSub, pMul_ok, pDiv, pMod, pNeg, pIAdd, pCmp, pEq, pNe, eqD, pIsN, pNotN, isNon, pIn, pNotIn, inD, pIdx, pLen, lenD, pAbs, pMax2, pMin2, pInt, pStr, pTuple, pList, pIsi, isiD, eMeth, tyD, pAppend, pCount, pRfind, pSIndex, pJoin, seqOf, Option.map_some, Option.map_none, Option.bind_some, Option.bind_none, Option.bind_eq_bind, Option.pure_def, List.getElem?_cons_zero, List.getElem?_cons_succ, List.getElem?_nil, List.set_cons_zero, List.set_cons_succ, List.set_nil, List.map_cons, List.map_nil, List.cons_append, List.nil_append, List.length_cons, List.length_nil, List.length_map, reduceIte, Bool.not_true, Bool.not_false, Bool.false_eq_true, decide_true, decide_false, Bool.and_true, Bool.true_and, beq_self_eq_true, Nat.zero_add, Option.isSome_some, sizeLine_v, Nat.reduceAdd, Int.cast_ofNat_Int, Int.natCast_zero, Int.natCast_one, Int.reduceEq, Int.reduceLT, Int.reduceLE, Int.reduceNeg, Int.reduceAdd, Int.reduceMul, Int.reduceSub, Nat.reduceEqDiff, Nat.reduceLT, Nat.reduceLeDiff, sFor, iSeq, srcOf, iSrc, pRange1, pRange2, iEnum', srcEn, p__can_begin_1, p__can_begin_2, q1]
theorem can_ok {n lo hi : Nat} (hl : lo ≤ hi) (hh : hi < 1000) (h : HH) : fn__can_begin [.int n, .int lo, .int hi] h = .ok (.bl (decide (canB n lo hi))) h := by
  unfold fn__can_begin b__can_begin
  simp only [mkFn, sSeq, sNil, sBrk, sCnt, bindS, sExpr, sRet, sRetN, sIf, sSet, sSetIdx, sAug, sAsg, tgName, tgTup, tgSeq, R.bind, R.of, eVar, eC, eBin, eUn, eChain, tBool, tTru, truth, tNot', tAnd', tOr', tYes', eAnd, eOr, eNot, eIf, aNil, aCons, eTup, eLst, eCallB, eCall, eSl, oNone, oSome, pSl, pAdd, pSub, pMul_ok, pDiv, pMod, pNeg, pIAdd, pCmp, pEq, pNe, eqD, pIsN, pNotN, isNon, pIn, pNotIn, inD, pIdx, pLen, lenD, pAbs, pMax2, pMin2, pInt, pStr, pTuple, pList, pIsi, isiD, eMeth, tyD, pAppend, pCount, pRfind, pSIndex, pJoin, seqOf, Option.map_some, Option.map_none, Option.bind_some, Option.bind_none, Option.bind_eq_bind, Option.pure_def, List.getElem?_cons_zero, List.getElem?_cons_succ, List.getElem?_nil, List.set_cons_zero, List.set_cons_succ, List.set_nil, List.map_cons, List.map_nil, List.cons_append, List.nil_append, List.length_cons, List.length_nil, List.length_map, reduceIte, Bool.not_true, Bool.not_false, Bool.false_eq_true, decide_true, decide_false, Bool.and_true, Bool.true_and, beq_self_eq_true, Nat.zero_add, Option.isSome_some, sizeLine_v, Nat.reduceAdd, Int.cast_ofNat_Int, Int.natCast_zero, Int.natCast_one, Int.reduceEq, Int.reduceLT, Int.reduceLE, Int.reduceNeg, Int.reduceAdd, Int.reduceMul, Int.reduceSub, Nat.reduceEqDiff, Nat.reduceLT, Nat.reduceLeDiff, sFor, iSeq, srcOf, iSrc, pRange1, pRange2, iEnum', srcEn]
  have fin : ∀ b : Bool, decide (canB n lo hi) = b ↔ (canB n lo hi ↔ b = true) := fun b => by cases b <;> simp
  generalize hd : decide (canB n lo hi) = b
  have hb := (fin b).mp hd
  unfold canB at hb
  rw [cb_step]
  by_cases q1 : (n : Int) ≤ hi
  · rw [if_pos q1]
    by_cases q2 : (lo : Int) ≤ n
    · rw [if_pos q2]
      simp only [mkFn, sSeq, sNil, sBrk, sCnt, bindS, sExpr, sRet, sRetN, sIf, sSet, sSetIdx, sAug, sAsg, tgName, tgTup, tgSeq, R.bind, R.of, eVar, eC, eBin, eUn, eChain, tBool, tTru, truth, tNot', tAnd', tOr', tYes', eAnd, eOr, eNot, eIf, aNil, aCons, eTup, eLst, eCallB, eCall, eSl, oNone, oSome, pSl, pAdd, pSub, pMul_ok, pDiv, pMod, pNeg, pIAdd, pCmp, pEq, pNe, eqD, pIsN, pNotN, isNon, pIn, pNotIn, inD, pIdx, pLen, lenD, pAbs, pMax2, pMin2, pInt, pStr, pTuple, pList, pIsi, isiD, eMeth, tyD, pAppend, pCount, pRfind, pSIndex, pJoin, seqOf, Option.map_some, Option.map_none, Option.bind_some, Option.bind_none, Option.bind_eq_bind, Option.pure_def, List.getElem?_cons_zero, List.getElem?_cons_succ, List.getElem?_nil, List.set_cons_zero, List.set_cons_succ, List.set_nil, List.map_cons, List.map_nil, List.cons_append, List.nil_append, List.length_cons, List.length_nil, List.length_map, reduceIte, Bool.not_true, Bool.not_false, Bool.false_eq_true, decide_true, decide_false, Bool.and_true, Bool.true_and, beq_self_eq_true, Nat.zero_add, Option.isSome_some, sizeLine_v, Nat.reduceAdd, Int.cast_ofNat_Int, Int.natCast_zero, Int.natCast_one, Int.reduceEq, Int.reduceLT, Int.reduceLE, Int.reduceNeg, Int.reduceAdd, Int.reduceMul, Int.reduceSub, Nat.reduceEqDiff, Nat.reduceLT, Nat.reduceLeDiff, sFor, iSeq, srcOf, iSrc, pRange1, pRange2, iEnum', srcEn]
      rw [hb.mp (by omega)]
    · rw [if_neg q2]
      by_cases q3 : (n : Int) = 0
      · rw [if_pos q3]
        simp only [mkFn, sSeq, sNil, sBrk, sCnt, bindS, sExpr, sRet, sRetN, sIf, sSet, sSetIdx, sAug, sAsg, tgName, tgTup, tgSeq, R.bind, R.of, eVar, eC, eBin, eUn, eChain, tBool, tTru, truth, tNot', tAnd', tOr', tYes', eAnd, eOr, eNot, eIf, aNil, aCons, eTup, eLst, eCallB, eCall, eSl, oNone, oSome, pSl, pAdd, pSub, pMul_ok, pDiv, pMod, pNeg, pIAdd, pCmp, pEq, pNe, eqD, pIsN, pNotN, isNon, pIn, pNotIn, inD, pIdx, pLen, lenD, pAbs, pMax2, pMin2, pInt, pStr, pTuple, pList, pIsi, isiD, eMeth, tyD, pAppend, pCount, pRfind, pSIndex, pJoin, seqOf, Option.map_some, Option.map_none, Option.bind_some, Option.bind_none, Option.bind_eq_bind, Option.pure_def, List.getElem?_cons_zero, List.getElem?_cons_succ, List.getElem?_nil, List.set_cons_zero, List.set_cons_succ, List.set_nil, List.map_cons, List.map_nil, List.cons_append, List.nil_append, List.length_cons, List.length_nil, List.length_map, reduceIte, Bool.not_true, Bool.not_false, Bool.false_eq_true, decide_true, decide_false, Bool.and_true, Bool.true_and, beq_self_eq_true, Nat.zero_add, Option.isSome_some, sizeLine_v, Nat.reduceAdd, Int.cast_ofNat_Int, Int.natCast_zero, Int.natCast_one, Int.reduceEq, Int.reduceLT, Int.reduceLE, Int.reduceNeg, Int.reduceAdd, Int.reduceMul, Int.reduceSub, Nat.reduceEqDiff, Nat.reduceLT, Nat.reduceLeDiff, sFor, iSeq, srcOf, iSrc, pRange1, pRange2, iEnum', srcEn]
        cases b
        · rfl
        · have := hb.mpr rfl; omega
      · rw [if_neg q3, cb_step]
        by_cases q4 : (n : Int) * 10 ≤ hi
        · rw [if_pos q4]
          by_cases q5 : (lo : Int) ≤ n * 10 + 9
          · rw [if_pos q5]
            simp only [mkFn, sSeq, sNil, sBrk, sCnt, bindS, sExpr, sRet, sRetN, sIf, sSet, sSetIdx, sAug, sAsg, tgName, tgTup, tgSeq, R.bind, R.of, eVar, eC, eBin, eUn, eChain, tBool, tTru, truth, tNot', tAnd', tOr', tYes', eAnd, eOr, eNot, eIf, aNil, aCons, eTup, eLst, eCallB, eCall, eSl, oNone, oSome, pSl, pAdd, pSub, pMul_ok, pDiv, pMod, pNeg, pIAdd, pCmp, pEq, pNe, eqD, pIsN, pNotN, isNon, pIn, pNotIn, inD, pIdx, pLen, lenD, pAbs, pMax2, pMin2, pInt, pStr, pTuple, pList, pIsi, isiD, eMeth, tyD, pAppend, pCount, pRfind, pSIndex, pJoin, seqOf, Option.map_some, Option.map_none, Option.bind_some, Option.bind_none, Option.bind_eq_bind, Option.pure_def, List.getElem?_cons_zero, List.getElem?_cons_succ, List.getElem?_nil, List.set_cons_zero, List.set_cons_succ, List.set_nil, List.map_cons, List.map_nil, List.cons_append, List.nil_append, List.length_cons, List.length_nil, List.length_map, reduceIte, Bool.not_true, Bool.not_false, Bool.false_eq_true, decide_true, decide_false, Bool.and_true, Bool.true_and, beq_self_eq_true, Nat.zero_add, Option.isSome_some, sizeLine_v, Nat.reduceAdd, Int.cast_ofNat_Int, Int.natCast_zero, Int.natCast_one, Int.reduceEq, Int.reduceLT, Int.reduceLE, Int.reduceNeg, Int.reduceAdd, Int.reduceMul, Int.reduceSub, Nat.reduceEqDiff, Nat.reduceLT, Nat.reduceLeDiff, sFor, iSeq, srcOf, iSrc, pRange1, pRange2, iEnum', srcEn]
            rw [hb.mp (by omega)]
          · rw [if_neg q5, if_neg q3, cb_step]
            by_cases q6 : (n : Int) * 10 * 10 ≤ hi
            · rw [if_pos q6]
              by_cases q7 : (lo : Int) ≤ (n * 10 + 9) * 10 + 9
              · rw [if_pos q7]
                simp only [mkFn, sSeq, sNil, sBrk, sCnt, bindS, sExpr, sRet, sRetN, sIf, sSet, sSetIdx, sAug, sAsg, tgName, tgTup, tgSeq, R.bind, R.of, eVar, eC, eBin, eUn, eChain, tBool, tTru, truth, tNot', tAnd', tOr', tYes', eAnd, eOr, eNot, eIf, aNil, aCons, eTup, eLst, eCallB, eCall, eSl, oNone, oSome, pSl, pAdd, pSub, pMul_ok, pDiv, pMod, pNeg, pIAdd, pCmp, pEq, pNe, eqD, pIsN, pNotN, isNon, pIn, pNotIn, inD, pIdx, pLen, lenD, pAbs, pMax2, pMin2, pInt, pStr, pTuple, pList, pIsi, isiD, eMeth, tyD, pAppend, pCount, pRfind, pSIndex, pJoin, seqOf, Option.map_some, Option.map_none, Option.bind_some, Option.bind_none, Option.bind_eq_bind, Option.pure_def, List.getElem?_cons_zero, List.getElem?_cons_succ, List.getElem?_nil, List.set_cons_zero, List.set_cons_succ, List.set_nil, List.map_cons, List.map_nil, List.cons_append, List.nil_append, List.length_cons, List.length_nil, List.length_map, reduceIte, Bool.not_true, Bool.not_false, Bool.false_eq_true, decide_true, decide_false, Bool.and_true, Bool.true_and, beq_self_eq_true, Nat.zero_add, Option.isSome_some, sizeLine_v, Nat.reduceAdd, Int.cast_ofNat_Int, Int.natCast_zero, Int.natCast_one, Int.reduceEq, Int.reduceLT, Int.reduceLE, Int.reduceNeg, Int.reduceAdd, Int.reduceMul, Int.reduceSub, Nat.reduceEqDiff, Nat.reduceLT, Nat.reduceLeDiff, sFor, iSeq, srcOf, iSrc, pRange1, pRange2, iEnum', srcEn]
                rw [hb.mp (by omega)]
              · rw [if_neg q7, if_neg q3, cb_step, if_neg (by omega)]
                simp only [mkFn, sSeq, sNil, sBrk, sCnt, bindS, sExpr, sRet, sRetN, sIf, sSet, sSetIdx, sAug, sAsg, tgName, tgTup, tgSeq, R.bind, R.of, eVar, eC, eBin, eUn, eChain, tBool, tTru, truth, tNot', tAnd', tOr', tYes', eAnd, eOr, eNot, eIf, aNil, aCons, eTup, eLst, eCallB, eCall, eSl, oNone, oSome, pSl, pAdd, pSub, pMul_ok, pDiv, pMod, pNeg, pIAdd, pCmp, pEq, pNe, eqD, pIsN, pNotN, isNon, pIn, pNotIn, inD, pIdx, pLen, lenD, pAbs, pMax2, pMin2, pInt, pStr, pTuple, pList, pIsi, isiD, eMeth, tyD, pAppend, pCount, pRfind, pSIndex, pJoin, seqOf, Option.map_some, Option.map_none, Option.bind_some, Option.bind_none, Option.bind_eq_bind, Option.pure_def, List.getElem?_cons_zero, List.getElem?_cons_succ, List.getElem?_nil, List.set_cons_zero, List.set_cons_succ, List.set_nil, List.map_cons, List.map_nil, List.cons_append, List.nil_append, List.length_cons, List.length_nil, List.length_map, reduceIte, Bool.not_true, Bool.not_false, Bool.false_eq_true, decide_true, decide_false, Bool.and_true, Bool.true_and, beq_self_eq_true, Nat.zero_add, Option.isSome_some, sizeLine_v, Nat.reduceAdd, Int.cast_ofNat_Int, Int.natCast_zero, Int.natCast_one, Int.reduceEq, Int.reduceLT, Int.reduceLE, Int.reduceNeg, Int.reduceAdd, Int.reduceMul, Int.reduceSub, Nat.reduceEqDiff, Nat.reduceLT, Nat.reduceLeDiff, sFor, iSeq, srcOf, iSrc, pRange1, pRange2, iEnum', srcEn]
                cases b
                · rfl
                · have := hb.mpr rfl; omega
            · rw [if_neg q6]
              simp only [mkFn, sSeq, sNil, sBrk, sCnt, bindS, sExpr, sRet, sRetN, sIf, sSet, sSetIdx, sAug, sAsg, tgName, tgTup, tgSeq, R.bind, R.of, eVar, eC, eBin, eUn, eChain, tBool, tTru, truth, tNot', tAnd', tOr', tYes', eAnd, eOr, eNot, eIf, aNil, aCons, eTup, eLst, eCallB, eCall, eSl, oNone, oSome, pSl, pAdd, pSub, pMul_ok, pDiv, pMod, pNeg, pIAdd, pCmp, pEq, pNe, eqD, pIsN, pNotN, isNon, pIn, pNotIn, inD, pIdx, pLen, lenD, pAbs, pMax2, pMin2, pInt, pStr, pTuple, pList, pIsi, isiD, eMeth, tyD, pAppend, pCount, pRfind, pSIndex, pJoin, seqOf, Option.map_some, Option.map_none, Option.bind_some, Option.bind_none, Option.bind_eq_bind, Option.pure_def, List.getElem?_cons_zero, List.getElem?_cons_succ, List.getElem?_nil, List.set_cons_zero, List.set_cons_succ, List.set_nil, List.map_cons, List.map_nil, List.cons_append, List.nil_append, List.length_cons, List.length_nil, List.length_map, reduceIte, Bool.not_true, Bool.not_false, Bool.false_eq_true, decide_true, decide_false, Bool.and_true, Bool.true_and, beq_self_eq_true, Nat.zero_add, Option.isSome_some, sizeLine_v, Nat.reduceAdd, Int.cast_ofNat_Int, Int.natCast_zero, Int.natCast_one, Int.reduceEq, Int.reduceLT, Int.reduceLE, Int.reduceNeg, Int.reduceAdd, Int.reduceMul, Int.reduceSub, Nat.reduceEqDiff, Nat.reduceLT, Nat.reduceLeDiff, sFor, iSeq, srcOf, iSrc, pRange1, pRange2, iEnum', srcEn]
              cases b
              · rfl
              · have := hb.mpr rfl; omega
        · rw [if_neg q4]
          simp only [mkFn, sSeq, sNil, sBrk, sCnt, bindS, sExpr, sRet, sRetN, sIf, sSet, sSetIdx, sAug, sAsg, tgName, tgTup, tgSeq, R.bind, R.of, eVar, eC, eBin, eUn, eChain, tBool, tTru, truth, tNot', tAnd', tOr', tYes', eAnd, eOr, eNot, eIf, aNil, aCons, eTup, eLst, eCallB, eCall, eSl, oNone, oSome, pSl, pAdd, pSub, pMul_ok, pDiv, pMod, pNeg, pIAdd, pCmp, pEq, pNe, eqD, pIsN, pNotN, isNon, pIn, pNotIn, inD, pIdx, pLen, lenD, pAbs, pMax2, pMin2, pInt, pStr, pTuple, pList, pIsi, isiD, eMeth, tyD, pAppend, pCount, pRfind, pSIndex, pJoin, seqOf, Option.map_some, Option.map_none, Option.bind_some, Option.bind_none, Option.bind_eq_bind, Option.pure_def, List.getElem?_cons_zero, List.getElem?_cons_succ, List.getElem?_nil, List.set_cons_zero, List.set_cons_succ, List.set_nil, List.map_cons, List.map_nil, List.cons_append, List.nil_append, List.length_cons, List.length_nil, List.length_map, reduceIte, Bool.not_true, Bool.not_false, Bool.false_eq_true, decide_true, decide_false, Bool.and_true, Bool.true_and, beq_self_eq_true, Nat.zero_add, Option.isSome_some, sizeLine_v, Nat.reduceAdd, Int.cast_ofNat_Int, Int.natCast_zero, Int.natCast_one, Int.reduceEq, Int.reduceLT, Int.reduceLE, Int.reduceNeg, Int.reduceAdd, Int.reduceMul, Int.reduceSub, Nat.reduceEqDiff, Nat.reduceLT, Nat.reduceLeDiff, sFor, iSeq, srcOf, iSrc, pRange1, pRange2, iEnum', srcEn]
          cases b
          · rfl
          · have := hb.mpr rfl; omega
  · rw [if_neg q1]
    simp only [mkFn, sSeq, sNil, sBrk, sCnt, bindS, sExpr, sRet, sRetN, sIf, sSet, sSetIdx, sAug, sAsg, tgName, tgTup, tgSeq, R.bind, R.of, eVar, eC, eBin, eUn, eChain, tBool, tTru, truth, tNot', tAnd', tOr', tYes', eAnd, eOr, eNot, eIf, aNil, aCons, eTup, eLst, eCallB, eCall, eSl, oNone, oSome, pSl, pAdd, pSub, pMul_ok, pDiv, pMod, pNeg, pIAdd, pCmp, pEq, pNe, eqD, pIsN, pNotN, isNon, pIn, pNotIn, inD, pIdx, pLen, lenD, pAbs, pMax2, pMin2, pInt, pStr, pTuple, pList, pIsi, isiD, eMeth, tyD, pAppend, pCount, pRfind, pSIndex, pJoin, seqOf, Option.map_some, Option.map_none, Option.bind_some, Option.bind_none, Option.bind_eq_bind, Option.pure_def, List.getElem?_cons_zero, List.getElem?_cons_succ, List.getElem?_nil, List.set_cons_zero, List.set_cons_succ, List.set_nil, List.map_cons, List.map_nil, List.cons_append, List.nil_append, List.length_cons, List.length_nil, List.length_map, reduceIte, Bool.not_true, Bool.not_false, Bool.false_eq_true, decide_true, decide_false, Bool.and_true, Bool.true_and, beq_self_eq_true, Nat.zero_add, Option.isSome_some, sizeLine_v, Nat.reduceAdd, Int.cast_ofNat_Int, Int.natCast_zero, Int.natCast_one, Int.reduceEq, Int.reduceLT, Int.reduceLE, Int.reduceNeg, Int.reduceAdd, Int.reduceMul, Int.reduceSub, Nat.reduceEqDiff, Nat.reduceLT, Nat.reduceLeDiff, sFor, iSeq, srcOf, iSrc, pRange1, pRange2, iEnum', srcEn]
    cases b
    · rfl
    · have := hb.mpr rfl; omega
/-! ### numbers -/
def DIG : List Nat := [48, 49, 50, 51, 52, 53, 54, 55, 56, 57]
theorem mem_dig (c : Nat) : c ∈ DIG ↔ dig c := by
  unfold DIG dig
  simp
  omega
theorem idx_dig {c : Nat} (h : dig c) : DIG.idxOf c = c - 48 := by
  have : ∀ d < 10, DIG.idxOf (48 + d) = 48 + d - 48 := by decide
  have hc := h
  unfold dig at hc
  have := this (c - 48) (by omega)
  rw [show 48 + (c - 48) = c by omega] at this
  exact this
theorem while_true {c : TS'} {b : SS} {ρ ρ' : Rho} {h h1 h' : HH} (e1 : c ρ h = .ok true h1) (e2 : b ρ h1 = .nx ρ' h') : sWhile c b ρ h = sWhile c b ρ' h' := by
  rw [sWhile_eq, e1]
  dsimp only [bindS]
  rw [if_pos rfl, e2]
theorem while_ex {c : TS'} {b : SS} {ρ ρ' : Rho} {h h1 h' : HH} {C : Str} {fs : List (Str × D)} (e1 : c ρ h = .ok true h1) (e2 : b ρ h1 = .ex C fs ρ' h') : sWhile c b ρ h = .ex C fs ρ' h' := by
  rw [sWhile_eq, e1]
  dsimp only [bindS]
  rw [if_pos rfl, e2]
theorem while_false {c : TS'} {b : SS} {ρ : Rho} {h h1 : HH} (e1 : c ρ h = .ok false h1) : sWhile c b ρ h = .nx ρ h1 := by
  rw [sWhile_eq, e1]
  rfl
theorem rn_end {t : List Nat} (ht : t.length ≤ 16777216) {lo hi : Nat} (a p : Nat) (h : HH) (v : Nat) (x : Option D) (hp : ¬ p < t.length) : p__read_number_1 [some (.str t), some (.int p), some (.int lo), some (.int hi), some (.int v), some (.int a), x] h = .ok false h := by
  simp only [mkFn, sSeq, sNil, sBrk, sCnt, bindS, sExpr, sRet, sRetN, sIf, sSet, sSetIdx, sAug, sAsg, tgName, tgTup, tgSeq, R.bind, R.of, eVar, eC, eBin, eUn, eChain, tBool, tTru, truth, tNot', tAnd', tOr', tYes', eAnd, eOr, eNot, eIf, aNil, aCons, eTup, eLst, eCallB, eCall, eSl, oNone, oSome, pSl, pAdd, pSub, pMul_ok, pDiv, pMod, pNeg, pIAdd, pCmp, pEq, pNe, eqD, pIsN, pNotN, isNon, pIn, pNotIn, inD, pIdx, pLen, lenD, pAbs, pMax2, pMin2, pInt, pStr, pTuple, pList, pIsi, isiD, eMeth, tyD, pAppend, pCount, pRfind, pSIndex, pJoin, seqOf, Option.map_some, Option.map_none, Option.bind_some, Option.bind_none, Option.bind_eq_bind, Option.pure_def, List.getElem?_cons_zero, List.getElem?_cons_succ, List.getElem?_nil, List.set_cons_zero, List.set_cons_succ, List.set_nil, List.map_cons, List.map_nil, List.cons_append, List.nil_append, List.length_cons, List.length_nil, List.length_map, reduceIte, Bool.not_true, Bool.not_false, Bool.false_eq_true, decide_true, decide_false, Bool.and_true, Bool.true_and, beq_self_eq_true, Nat.zero_add, Option.isSome_some, sizeLine_v, Nat.reduceAdd, Int.cast_ofNat_Int, Int.natCast_zero, Int.natCast_one, Int.reduceEq, Int.reduceLT, Int.reduceLE, Int.reduceNeg, Int.reduceAdd, Int.reduceMul, Int.reduceSub, Nat.reduceEqDiff, Nat.reduceLT, Nat.reduceLeDiff, sFor, iSeq, srcOf, iSrc, pRange1, pRange2, iEnum', srcEn, p__read_number_1, ht, nat_lt, hp]
theorem rn_test {t : List Nat} (ht : t.length ≤ 16777216) {lo hi : Nat} (a p : Nat) (h : HH) (v : Nat) (x : Option D) {c : Nat} (hc : t[p]? = some c) : p__read_number_1 [some (.str t), some (.int p), some (.int lo), some (.int hi), some (.int v), some (.int a), x] h = .ok (decide (dig c)) h := by
  have hn : p < t.length := (List.getElem?_eq_some_iff.mp hc).1
  have hat : L2.atI t (p : Int) = some c := by rw [Py.atI_nat]; exact hc
  have hm : decide (c ∈ [48, 49, 50, 51, 52, 53, 54, 55, 56, 57]) = decide (dig c) := by
    have := mem_dig c
    unfold DIG at this
    by_cases hd : dig c
    · rw [decide_eq_true hd, decide_eq_true (this.mpr hd)]
    · rw [decide_eq_false hd, decide_eq_false fun z => hd (this.mp z)]
  simp only [mkFn, sSeq, sNil, sBrk, sCnt, bindS, sExpr, sRet, sRetN, sIf, sSet, sSetIdx, sAug, sAsg, tgName, tgTup, tgSeq, R.bind, R.of, eVar, eC, eBin, eUn, eChain, tBool, tTru, truth, tNot', tAnd', tOr', tYes', eAnd, eOr, eNot, eIf, aNil, aCons, eTup, eLst, eCallB, eCall, eSl, oNone, oSome, pSl, pAdd, pSub, pMul_ok, pDiv, pMod, pNeg, pIAdd, pCmp, pEq, pNe, eqD, pIsN, pNotN, isNon, pIn, pNotIn, inD, pIdx, pLen, lenD, pAbs, pMax2, pMin2, pInt, pStr, pTuple, pList, pIsi, isiD, eMeth, tyD, pAppend, pCount, pRfind, pSIndex, pJoin, seqOf, Option.map_some, Option.map_none, Option.bind_some, Option.bind_none, Option.bind_eq_bind, Option.pure_def, List.getElem?_cons_zero, List.getElem?_cons_succ, List.getElem?_nil, List.set_cons_zero, List.set_cons_succ, List.set_nil, List.map_cons, List.map_nil, List.cons_append, List.nil_append, List.length_cons, List.length_nil, List.length_map, reduceIte, Bool.not_true, Bool.not_false, Bool.false_eq_true, decide_true, decide_false, Bool.and_true, Bool.true_and, beq_self_eq_true, Nat.zero_add, Option.isSome_some, sizeLine_v, Nat.reduceAdd, Int.cast_ofNat_Int, Int.natCast_zero, Int.natCast_one, Int.reduceEq, Int.reduceLT, Int.reduceLE, Int.reduceNeg, Int.reduceAdd, Int.reduceMul, Int.reduceSub, Nat.reduceEqDiff, Nat.reduceLT, Nat.reduceLeDiff, sFor, iSeq, srcOf, iSrc, pRange1, pRange2, iEnum', srcEn, p__read_number_1, ht, nat_lt, hn, hat, hm]
theorem rn_body {t : List Nat} (ht : t.length ≤ 16777216) {lo hi : Nat} (hl : lo ≤ hi) (hh : hi < 1000) (a p : Nat) (h : HH) (v w : Nat) (x : Option D) {c : Nat} (hc : t[p]? = some c) (hd : dig c) (hw : w = 10 * v + (c - 48)) :
    p__read_number_2 [some (.str t), some (.int p), some (.int lo), some (.int hi), some (.int v), some (.int a), x] h =
      if (a < p ∧ v = 0) ∨ ¬ canB w lo hi then .ex "BadLine" (bl t p) [some (.str t), some (.int p), some (.int lo), some (.int hi), some (.int v), some (.int a), some (.int w)] h
      else .nx [some (.str t), some (.int ((p + 1 : Nat) : Int)), some (.int lo), some (.int hi), some (.int w), some (.int a), some (.int w)] h := by
  have hat : L2.atI t (p : Int) = some c := by rw [Py.atI_nat]; exact hc
  have hm : c ∈ [48, 49, 50, 51, 52, 53, 54, 55, 56, 57] := (mem_dig c).mpr hd
  have hx : List.idxOf c [48, 49, 50, 51, 52, 53, 54, 55, 56, 57] = c - 48 := idx_dig hd
  have cm : CMul (v : Int) 10 := .inr (by decide)
  have hv : (v : Int) * 10 + ((c - 48 : Nat) : Int) = (w : Int) := by omega
  have cb := fun h => can_ok (n := w) hl hh h
  clear hw
  generalize c - 48 = u at hx hv
  have rf := refuse_ok ht p h
  by_cases z1 : a < p
  · by_cases z2 : (v : Int) = 0
    · rw [if_pos (.inl ⟨z1, by omega⟩)]
      rw [z2, Int.zero_mul] at hv
      rw [z2] at cm
      simp only [mkFn, sSeq, sNil, sBrk, sCnt, bindS, sExpr, sRet, sRetN, sIf, sSet, sSetIdx, sAug, sAsg, tgName, tgTup, tgSeq, R.bind, R.of, eVar, eC, eBin, eUn, eChain, tBool, tTru, truth, tNot', tAnd', tOr', tYes', eAnd, eOr, eNot, eIf, aNil, aCons, eTup, eLst, eCallB, eCall, eSl, oNone, oSome, pSl, pAdd, pSub, pMul_ok, pDiv, pMod, pNeg, pIAdd, pCmp, pEq, pNe, eqD, pIsN, pNotN, isNon, pIn, pNotIn, inD, pIdx, pLen, lenD, pAbs, pMax2, pMin2, pInt, pStr, pTuple, pList, pIsi, isiD, eMeth, tyD, pAppend, pCount, pRfind, pSIndex, pJoin, seqOf, Option.map_some, Option.map_none, Option.bind_some, Option.bind_none, Option.bind_eq_bind, Option.pure_def, List.getElem?_cons_zero, List.getElem?_cons_succ, List.getElem?_nil, List.set_cons_zero, List.set_cons_succ, List.set_nil, List.map_cons, List.map_nil, List.cons_append, List.nil_append, List.length_cons, List.length_nil, List.length_map, reduceIte, Bool.not_true, Bool.not_false, Bool.false_eq_true, decide_true, decide_false, Bool.and_true, Bool.true_and, beq_self_eq_true, Nat.zero_add, Option.isSome_some, sizeLine_v, Nat.reduceAdd, Int.cast_ofNat_Int, Int.natCast_zero, Int.natCast_one, Int.reduceEq, Int.reduceLT, Int.reduceLE, Int.reduceNeg, Int.reduceAdd, Int.reduceMul, Int.reduceSub, Nat.reduceEqDiff, Nat.reduceLT, Nat.reduceLeDiff, sFor, iSeq, srcOf, iSrc, pRange1, pRange2, iEnum', srcEn, p__read_number_2, ht, nat_lt, hat, hm, hx, cm, hv, cb, z1, z2, rf, beq_self_eq_true]
    · by_cases z3 : canB w lo hi
      · rw [if_neg fun q => q.elim (fun q => z2 (by omega)) fun q => q z3]
        simp only [mkFn, sSeq, sNil, sBrk, sCnt, bindS, sExpr, sRet, sRetN, sIf, sSet, sSetIdx, sAug, sAsg, tgName, tgTup, tgSeq, R.bind, R.of, eVar, eC, eBin, eUn, eChain, tBool, tTru, truth, tNot', tAnd', tOr', tYes', eAnd, eOr, eNot, eIf, aNil, aCons, eTup, eLst, eCallB, eCall, eSl, oNone, oSome, pSl, pAdd, pSub, pMul_ok, pDiv, pMod, pNeg, pIAdd, pCmp, pEq, pNe, eqD, pIsN, pNotN, isNon, pIn, pNotIn, inD, pIdx, pLen, lenD, pAbs, pMax2, pMin2, pInt, pStr, pTuple, pList, pIsi, isiD, eMeth, tyD, pAppend, pCount, pRfind, pSIndex, pJoin, seqOf, Option.map_some, Option.map_none, Option.bind_some, Option.bind_none, Option.bind_eq_bind, Option.pure_def, List.getElem?_cons_zero, List.getElem?_cons_succ, List.getElem?_nil, List.set_cons_zero, List.set_cons_succ, List.set_nil, List.map_cons, List.map_nil, List.cons_append, List.nil_append, List.length_cons, List.length_nil, List.length_map, reduceIte, Bool.not_true, Bool.not_false, Bool.false_eq_true, decide_true, decide_false, Bool.and_true, Bool.true_and, beq_self_eq_true, Nat.zero_add, Option.isSome_some, sizeLine_v, Nat.reduceAdd, Int.cast_ofNat_Int, Int.natCast_zero, Int.natCast_one, Int.reduceEq, Int.reduceLT, Int.reduceLE, Int.reduceNeg, Int.reduceAdd, Int.reduceMul, Int.reduceSub, Nat.reduceEqDiff, Nat.reduceLT, Nat.reduceLeDiff, sFor, iSeq, srcOf, iSrc, pRange1, pRange2, iEnum', srcEn, p__read_number_2, ht, nat_lt, hat, hm, hx, cm, hv, cb, z1, z2, z3, nat_add1, rf, beq_self_eq_true]
      · rw [if_pos (.inr z3)]
        simp only [mkFn, sSeq, sNil, sBrk, sCnt, bindS, sExpr, sRet, sRetN, sIf, sSet, sSetIdx, sAug, sAsg, tgName, tgTup, tgSeq, R.bind, R.of, eVar, eC, eBin, eUn, eChain, tBool, tTru, truth, tNot', tAnd', tOr', tYes', eAnd, eOr, eNot, eIf, aNil, aCons, eTup, eLst, eCallB, eCall, eSl, oNone, oSome, pSl, pAdd, pSub, pMul_ok, pDiv, pMod, pNeg, pIAdd, pCmp, pEq, pNe, eqD, pIsN, pNotN, isNon, pIn, pNotIn, inD, pIdx, pLen, lenD, pAbs, pMax2, pMin2, pInt, pStr, pTuple, pList, pIsi, isiD, eMeth, tyD, pAppend, pCount, pRfind, pSIndex, pJoin, seqOf, Option.map_some, Option.map_none, Option.bind_some, Option.bind_none, Option.bind_eq_bind, Option.pure_def, List.getElem?_cons_zero, List.getElem?_cons_succ, List.getElem?_nil, List.set_cons_zero, List.set_cons_succ, List.set_nil, List.map_cons, List.map_nil, List.cons_append, List.nil_append, List.length_cons, List.length_nil, List.length_map, reduceIte, Bool.not_true, Bool.not_false, Bool.false_eq_true, decide_true, decide_false, Bool.and_true, Bool.true_and, beq_self_eq_true, Nat.zero_add, Option.isSome_some, sizeLine_v, Nat.reduceAdd, Int.cast_ofNat_Int, Int.natCast_zero, Int.natCast_one, Int.reduceEq, Int.reduceLT, Int.reduceLE, Int.reduceNeg, Int.reduceAdd, Int.reduceMul, Int.reduceSub, Nat.reduceEqDiff, Nat.reduceLT, Nat.reduceLeDiff, sFor, iSeq, srcOf, iSrc, pRange1, pRange2, iEnum', srcEn, p__read_number_2, ht, nat_lt, hat, hm, hx, cm, hv, cb, z1, z2, z3, rf, beq_self_eq_true]
  · by_cases z3 : canB w lo hi
    · rw [if_neg fun q => q.elim (fun q => z1 q.1) fun q => q z3]
      simp only [mkFn, sSeq, sNil, sBrk, sCnt, bindS, sExpr, sRet, sRetN, sIf, sSet, sSetIdx, sAug, sAsg, tgName, tgTup, tgSeq, R.bind, R.of, eVar, eC, eBin, eUn, eChain, tBool, tTru, truth, tNot', tAnd', tOr', tYes', eAnd, eOr, eNot, eIf, aNil, aCons, eTup, eLst, eCallB, eCall, eSl, oNone, oSome, pSl, pAdd, pSub, pMul_ok, pDiv, pMod, pNeg, pIAdd, pCmp, pEq, pNe, eqD, pIsN, pNotN, isNon, pIn, pNotIn, inD, pIdx, pLen, lenD, pAbs, pMax2, pMin2, pInt, pStr, pTuple, pList, pIsi, isiD, eMeth, tyD, pAppend, pCount, pRfind, pSIndex, pJoin, seqOf, Option.map_some, Option.map_none, Option.bind_some, Option.bind_none, Option.bind_eq_bind, Option.pure_def, List.getElem?_cons_zero, List.getElem?_cons_succ, List.getElem?_nil, List.set_cons_zero, List.set_cons_succ, List.set_nil, List.map_cons, List.map_nil, List.cons_append, List.nil_append, List.length_cons, List.length_nil, List.length_map, reduceIte, Bool.not_true, Bool.not_false, Bool.false_eq_true, decide_true, decide_false, Bool.and_true, Bool.true_and, beq_self_eq_true, Nat.zero_add, Option.isSome_some, sizeLine_v, Nat.reduceAdd, Int.cast_ofNat_Int, Int.natCast_zero, Int.natCast_one, Int.reduceEq, Int.reduceLT, Int.reduceLE, Int.reduceNeg, Int.reduceAdd, Int.reduceMul, Int.reduceSub, Nat.reduceEqDiff, Nat.reduceLT, Nat.reduceLeDiff, sFor, iSeq, srcOf, iSrc, pRange1, pRange2, iEnum', srcEn, p__read_number_2, ht, nat_lt, hat, hm, hx, cm, hv, cb, z1, z3, nat_add1, rf, beq_self_eq_true]
    · rw [if_pos (.inr z3)]
      simp only [mkFn, sSeq, sNil, sBrk, sCnt, bindS, sExpr, sRet, sRetN, sIf, sSet, sSetIdx, sAug, sAsg, tgName, tgTup, tgSeq, R.bind, R.of, eVar, eC, eBin, eUn, eChain, tBool, tTru, truth, tNot', tAnd', tOr', tYes', eAnd, eOr, eNot, eIf, aNil, aCons, eTup, eLst, eCallB, eCall, eSl, oNone, oSome, pSl, pAdd, pSub, pMul_ok, pDiv, pMod, pNeg, pIAdd, pCmp, pEq, pNe, eqD, pIsN, pNotN, isNon, pIn, pNotIn, inD, pIdx, pLen, lenD, pAbs, pMax2, pMin2, pInt, pStr, pTuple, pList, pIsi, isiD, eMeth, tyD, pAppend, pCount, pRfind, pSIndex, pJoin, seqOf, Option.map_some, Option.map_none, Option.bind_some, Option.bind_none, Option.bind_eq_bind, Option.pure_def, List.getElem?_cons_zero, List.getElem?_cons_succ, List.getElem?_nil, List.set_cons_zero, List.set_cons_succ, List.set_nil, List.map_cons, List.map_nil, List.cons_append, List.nil_append, List.length_cons, List.length_nil, List.length_map, reduceIte, Bool.not_true, Bool.not_false, Bool.false_eq_true, decide_true, decide_false, Bool.and_true, Bool.true_and, beq_self_eq_true, Nat.zero_add, Option.isSome_some, sizeLine_v, Nat.reduceAdd, Int.cast_ofNat_Int, Int.natCast_zero, Int.natCast_one, Int.reduceEq, Int.reduceLT, Int.reduceLE, Int.reduceNeg, Int.reduceAdd, Int.reduceMul, Int.reduceSub, Nat.reduceEqDiff, Nat.reduceLT, Nat.reduceLeDiff, sFor, iSeq, srcOf, iSrc, pRange1, pRange2, iEnum', srcEn, p__read_number_2, ht, nat_lt, hat, hm, hx, cm, hv, cb, z1, z3, rf, beq_self_eq_true]
theorem rn_loop {t : List Nat} (ht : t.length ≤ 16777216) {lo hi : Nat} (hl : lo ≤ hi) (hh : hi < 1000) (a : Nat) (h : HH) (s : List Nat) : ∀ (v j : Nat) (x : Option D), t.drop (a + j) = s →
    (∃ m ρ', rdN lo hi s v j = .miss m ∧ sWhile p__read_number_1 p__read_number_2 [some (.str t), some (.int ((a + j : Nat) : Int)), some (.int lo), some (.int hi), some (.int v), some (.int a), x] h = .ex "BadLine" (bl t (a + m)) ρ' h) ∨
    (∃ v' j' x', rdN lo hi s v j = nFin lo v' j' ∧ sWhile p__read_number_1 p__read_number_2 [some (.str t), some (.int ((a + j : Nat) : Int)), some (.int lo), some (.int hi), some (.int v), some (.int a), x] h = .nx [some (.str t), some (.int ((a + j' : Nat) : Int)), some (.int lo), some (.int hi), some (.int v'), some (.int a), x'] h) := by
  induction s with
  | nil =>
    intro v j x hs
    right
    have hn : ¬ a + j < t.length := by
      have := congrArg List.length hs
      simp at this
      omega
    exact ⟨v, j, x, rfl, while_false (rn_end ht a (a + j) h v x hn)⟩
  | cons c s ih =>
    intro v j x hs
    have hc : t[a + j]? = some c := by
      have := congrArg (fun l => l[0]?) hs
      simpa using this
    have T := rn_test ht (lo := lo) (hi := hi) a (a + j) h v x hc
    unfold rdN
    by_cases hd : dig c
    · rw [if_pos hd]
      rw [decide_eq_true hd] at T
      generalize hw : 10 * v + (c - 48) = w
      have Bd := rn_body ht hl hh a (a + j) h v w x hc hd hw.symm
      by_cases hbad : (0 < j ∧ v = 0) ∨ ¬ canB w lo hi
      · rw [if_pos hbad]
        rw [if_pos (hbad.imp (fun q => ⟨by omega, q.2⟩) id)] at Bd
        exact .inl ⟨j, _, rfl, while_ex T Bd⟩
      · rw [if_neg hbad]
        rw [if_neg fun q => hbad (q.imp (fun q => ⟨by omega, q.2⟩) id)] at Bd
        have hs' : t.drop (a + (j + 1)) = s := by
          have := congrArg (List.drop 1) hs
          rw [List.drop_drop] at this
          simpa [Nat.add_assoc] using this
        have W := while_true T Bd
        rw [W]
        exact ih w (j + 1) _ hs'
    · rw [if_neg hd]
      rw [decide_eq_false hd] at T
      exact .inr ⟨v, j, x, rfl, while_false T⟩
theorem rnum_ok {t : List Nat} (ht : t.length ≤ 16777216) {lo hi : Nat} (hl : lo ≤ hi) (hh : hi < 1000) (a : Nat) (h : HH) : fn__read_number [.str t, .int a, .int lo, .int hi] h = match rdN lo hi (t.drop a) 0 0 with
    | .miss m => .ex "BadLine" (bl t (a + m)) h
    | .hit v len => .ok (.tup [.int v, .int ((a + len : Nat) : Int)]) h := by
  unfold fn__read_number b__read_number
  have L := rn_loop ht hl hh a h (t.drop a) 0 0 none rfl
  rcases L with ⟨m, ρ', e1, e2⟩ | ⟨v', j', x', e1, e2⟩
  · rw [Nat.add_zero] at e2
    simp only [mkFn, sSeq, sNil, sBrk, sCnt, bindS, sExpr, sRet, sRetN, sIf, sSet, sSetIdx, sAug, sAsg, tgName, tgTup, tgSeq, R.bind, R.of, eVar, eC, eBin, eUn, eChain, tBool, tTru, truth, tNot', tAnd', tOr', tYes', eAnd, eOr, eNot, eIf, aNil, aCons, eTup, eLst, eCallB, eCall, eSl, oNone, oSome, pSl, pAdd, pSub, pMul_ok, pDiv, pMod, pNeg, pIAdd, pCmp, pEq, pNe, eqD, pIsN, pNotN, isNon, pIn, pNotIn, inD, pIdx, pLen, lenD, pAbs, pMax2, pMin2, pInt, pStr, pTuple, pList, pIsi, isiD, eMeth, tyD, pAppend, pCount, pRfind, pSIndex, pJoin, seqOf, Option.map_some, Option.map_none, Option.bind_some, Option.bind_none, Option.bind_eq_bind, Option.pure_def, List.getElem?_cons_zero, List.getElem?_cons_succ, List.getElem?_nil, List.set_cons_zero, List.set_cons_succ, List.set_nil, List.map_cons, List.map_nil, List.cons_append, List.nil_append, List.length_cons, List.length_nil, List.length_map, reduceIte, Bool.not_true, Bool.not_false, Bool.false_eq_true, decide_true, decide_false, Bool.and_true, Bool.true_and, beq_self_eq_true, Nat.zero_add, Option.isSome_some, sizeLine_v, Nat.reduceAdd, Int.cast_ofNat_Int, Int.natCast_zero, Int.natCast_one, Int.reduceEq, Int.reduceLT, Int.reduceLE, Int.reduceNeg, Int.reduceAdd, Int.reduceMul, Int.reduceSub, Nat.reduceEqDiff, Nat.reduceLT, Nat.reduceLeDiff, sFor, iSeq, srcOf, iSrc, pRange1, pRange2, iEnum', srcEn]
    rw [Int.natCast_zero] at e2
    rw [e2, e1]
  · rw [Nat.add_zero, Int.natCast_zero] at e2
    simp only [mkFn, sSeq, sNil, sBrk, sCnt, bindS, sExpr, sRet, sRetN, sIf, sSet, sSetIdx, sAug, sAsg, tgName, tgTup, tgSeq, R.bind, R.of, eVar, eC, eBin, eUn, eChain, tBool, tTru, truth, tNot', tAnd', tOr', tYes', eAnd, eOr, eNot, eIf, aNil, aCons, eTup, eLst, eCallB, eCall, eSl, oNone, oSome, pSl, pAdd, pSub, pMul_ok, pDiv, pMod, pNeg, pIAdd, pCmp, pEq, pNe, eqD, pIsN, pNotN, isNon, pIn, pNotIn, inD, pIdx, pLen, lenD, pAbs, pMax2, pMin2, pInt, pStr, pTuple, pList, pIsi, isiD, eMeth, tyD, pAppend, pCount, pRfind, pSIndex, pJoin, seqOf, Option.map_some, Option.map_none, Option.bind_some, Option.bind_none, Option.bind_eq_bind, Option.pure_def, List.getElem?_cons_zero, List.getElem?_cons_succ, List.getElem?_nil, List.set_cons_zero, List.set_cons_succ, List.set_nil, List.map_cons, List.map_nil, List.cons_append, List.nil_append, List.length_cons, List.length_nil, List.length_map, reduceIte, Bool.not_true, Bool.not_false, Bool.false_eq_true, decide_true, decide_false, Bool.and_true, Bool.true_and, beq_self_eq_true, Nat.zero_add, Option.isSome_some, sizeLine_v, Nat.reduceAdd, Int.cast_ofNat_Int, Int.natCast_zero, Int.natCast_one, Int.reduceEq, Int.reduceLT, Int.reduceLE, Int.reduceNeg, Int.reduceAdd, Int.reduceMul, Int.reduceSub, Nat.reduceEqDiff, Nat.reduceLT, Nat.reduceLeDiff, sFor, iSeq, srcOf, iSrc, pRange1, pRange2, iEnum', srcEn]
    rw [e2, e1]
    unfold nFin
    by_cases q1 : j' = 0
    · have q2 : a + j' = a := by omega
      have q3 : j' = 0 ∨ v' < lo := .inl q1
      rw [if_pos q3]
      simp only [mkFn, sSeq, sNil, sBrk, sCnt, bindS, sExpr, sRet, sRetN, sIf, sSet, sSetIdx, sAug, sAsg, tgName, tgTup, tgSeq, R.bind, R.of, eVar, eC, eBin, eUn, eChain, tBool, tTru, truth, tNot', tAnd', tOr', tYes', eAnd, eOr, eNot, eIf, aNil, aCons, eTup, eLst, eCallB, eCall, eSl, oNone, oSome, pSl, pAdd, pSub, pMul_ok, pDiv, pMod, pNeg, pIAdd, pCmp, pEq, pNe, eqD, pIsN, pNotN, isNon, pIn, pNotIn, inD, pIdx, pLen, lenD, pAbs, pMax2, pMin2, pInt, pStr, pTuple, pList, pIsi, isiD, eMeth, tyD, pAppend, pCount, pRfind, pSIndex, pJoin, seqOf, Option.map_some, Option.map_none, Option.bind_some, Option.bind_none, Option.bind_eq_bind, Option.pure_def, List.getElem?_cons_zero, List.getElem?_cons_succ, List.getElem?_nil, List.set_cons_zero, List.set_cons_succ, List.set_nil, List.map_cons, List.map_nil, List.cons_append, List.nil_append, List.length_cons, List.length_nil, List.length_map, reduceIte, Bool.not_true, Bool.not_false, Bool.false_eq_true, decide_true, decide_false, Bool.and_true, Bool.true_and, beq_self_eq_true, Nat.zero_add, Option.isSome_some, sizeLine_v, Nat.reduceAdd, Int.cast_ofNat_Int, Int.natCast_zero, Int.natCast_one, Int.reduceEq, Int.reduceLT, Int.reduceLE, Int.reduceNeg, Int.reduceAdd, Int.reduceMul, Int.reduceSub, Nat.reduceEqDiff, Nat.reduceLT, Nat.reduceLeDiff, sFor, iSeq, srcOf, iSrc, pRange1, pRange2, iEnum', srcEn, nat_eq, q2, refuse_ok ht]
    · have q2 : ¬ a + j' = a := by omega
      by_cases q4 : v' < lo
      · rw [if_pos (.inr q4)]
        simp only [mkFn, sSeq, sNil, sBrk, sCnt, bindS, sExpr, sRet, sRetN, sIf, sSet, sSetIdx, sAug, sAsg, tgName, tgTup, tgSeq, R.bind, R.of, eVar, eC, eBin, eUn, eChain, tBool, tTru, truth, tNot', tAnd', tOr', tYes', eAnd, eOr, eNot, eIf, aNil, aCons, eTup, eLst, eCallB, eCall, eSl, oNone, oSome, pSl, pAdd, pSub, pMul_ok, pDiv, pMod, pNeg, pIAdd, pCmp, pEq, pNe, eqD, pIsN, pNotN, isNon, pIn, pNotIn, inD, pIdx, pLen, lenD, pAbs, pMax2, pMin2, pInt, pStr, pTuple, pList, pIsi, isiD, eMeth, tyD, pAppend, pCount, pRfind, pSIndex, pJoin, seqOf, Option.map_some, Option.map_none, Option.bind_some, Option.bind_none, Option.bind_eq_bind, Option.pure_def, List.getElem?_cons_zero, List.getElem?_cons_succ, List.getElem?_nil, List.set_cons_zero, List.set_cons_succ, List.set_nil, List.map_cons, List.map_nil, List.cons_append, List.nil_append, List.length_cons, List.length_nil, List.length_map, reduceIte, Bool.not_true, Bool.not_false, Bool.false_eq_true, decide_true, decide_false, Bool.and_true, Bool.true_and, beq_self_eq_true, Nat.zero_add, Option.isSome_some, sizeLine_v, Nat.reduceAdd, Int.cast_ofNat_Int, Int.natCast_zero, Int.natCast_one, Int.reduceEq, Int.reduceLT, Int.reduceLE, Int.reduceNeg, Int.reduceAdd, Int.reduceMul, Int.reduceSub, Nat.reduceEqDiff, Nat.reduceLT, Nat.reduceLeDiff, sFor, iSeq, srcOf, iSrc, pRange1, pRange2, iEnum', srcEn, nat_eq, nat_lt, q2, q4, refuse_ok ht]
      · rw [if_neg (by omega)]
        simp only [mkFn, sSeq, sNil, sBrk, sCnt, bindS, sExpr, sRet, sRetN, sIf, sSet, sSetIdx, sAug, sAsg, tgName, tgTup, tgSeq, R.bind, R.of, eVar, eC, eBin, eUn, eChain, tBool, tTru, truth, tNot', tAnd', tOr', tYes', eAnd, eOr, eNot, eIf, aNil, aCons, eTup, eLst, eCallB, eCall, eSl, oNone, oSome, pSl, pAdd, pSub, pMul_ok, pDiv, pMod, pNeg, pIAdd, pCmp, pEq, pNe, eqD, pIsN, pNotN, isNon, pIn, pNotIn, inD, pIdx, pLen, lenD, pAbs, pMax2, pMin2, pInt, pStr, pTuple, pList, pIsi, isiD, eMeth, tyD, pAppend, pCount, pRfind, pSIndex, pJoin, seqOf, Option.map_some, Option.map_none, Option.bind_some, Option.bind_none, Option.bind_eq_bind, Option.pure_def, List.getElem?_cons_zero, List.getElem?_cons_succ, List.getElem?_nil, List.set_cons_zero, List.set_cons_succ, List.set_nil, List.map_cons, List.map_nil, List.cons_append, List.nil_append, List.length_cons, List.length_nil, List.length_map, reduceIte, Bool.not_true, Bool.not_false, Bool.false_eq_true, decide_true, decide_false, Bool.and_true, Bool.true_and, beq_self_eq_true, Nat.zero_add, Option.isSome_some, sizeLine_v, Nat.reduceAdd, Int.cast_ofNat_Int, Int.natCast_zero, Int.natCast_one, Int.reduceEq, Int.reduceLT, Int.reduceLE, Int.reduceNeg, Int.reduceAdd, Int.reduceMul, Int.reduceSub, Nat.reduceEqDiff, Nat.reduceLT, Nat.reduceLeDiff, sFor, iSeq, srcOf, iSrc, pRange1, pRange2, iEnum', srcEn, nat_eq, nat_lt, q2, q4]
theorem one_at {t : List Nat} {a w : Nat} : (t.drop a).take 1 = [w] ↔ t[a]? = some w := by
  rw [← List.head?_drop]
  cases t.drop a with
  | nil => simp
  | cons c s => simp
theorem rchar_ok {t : List Nat} (ht : t.length ≤ 16777216) (a w : Nat) (h : HH) : fn__read_char [.str t, .int a, .str [w]] h = if t[a]? = some w then .ok (.int ((a + 1 : Nat) : Int)) h else .ex "BadLine" (bl t a) h := by
  unfold fn__read_char b__read_char
  have s1 : a + 1 - a = 1 := by omega
  by_cases q : t[a]? = some w
  · rw [if_pos q]
    simp only [mkFn, sSeq, sNil, sBrk, sCnt, bindS, sExpr, sRet, sRetN, sIf, sSet, sSetIdx, sAug, sAsg, tgName, tgTup, tgSeq, R.bind, R.of, eVar, eC, eBin, eUn, eChain, tBool, tTru, truth, tNot', tAnd', tOr', tYes', eAnd, eOr, eNot, eIf, aNil, aCons, eTup, eLst, eCallB, eCall, eSl, oNone, oSome, pSl, pAdd, pSub, pMul_ok, pDiv, pMod, pNeg, pIAdd, pCmp, pEq, pNe, eqD, pIsN, pNotN, isNon, pIn, pNotIn, inD, pIdx, pLen, lenD, pAbs, pMax2, pMin2, pInt, pStr, pTuple, pList, pIsi, isiD, eMeth, tyD, pAppend, pCount, pRfind, pSIndex, pJoin, seqOf, Option.map_some, Option.map_none, Option.bind_some, Option.bind_none, Option.bind_eq_bind, Option.pure_def, List.getElem?_cons_zero, List.getElem?_cons_succ, List.getElem?_nil, List.set_cons_zero, List.set_cons_succ, List.set_nil, List.map_cons, List.map_nil, List.cons_append, List.nil_append, List.length_cons, List.length_nil, List.length_map, reduceIte, Bool.not_true, Bool.not_false, Bool.false_eq_true, decide_true, decide_false, Bool.and_true, Bool.true_and, beq_self_eq_true, Nat.zero_add, Option.isSome_some, sizeLine_v, Nat.reduceAdd, Int.cast_ofNat_Int, Int.natCast_zero, Int.natCast_one, Int.reduceEq, Int.reduceLT, Int.reduceLE, Int.reduceNeg, Int.reduceAdd, Int.reduceMul, Int.reduceSub, Nat.reduceEqDiff, Nat.reduceLT, Nat.reduceLeDiff, sFor, iSeq, srcOf, iSrc, pRange1, pRange2, iEnum', srcEn, nat_add1, ht, cutL_mid, s1, one_at, q]
  · rw [if_neg q]
    simp only [mkFn, sSeq, sNil, sBrk, sCnt, bindS, sExpr, sRet, sRetN, sIf, sSet, sSetIdx, sAug, sAsg, tgName, tgTup, tgSeq, R.bind, R.of, eVar, eC, eBin, eUn, eChain, tBool, tTru, truth, tNot', tAnd', tOr', tYes', eAnd, eOr, eNot, eIf, aNil, aCons, eTup, eLst, eCallB, eCall, eSl, oNone, oSome, pSl, pAdd, pSub, pMul_ok, pDiv, pMod, pNeg, pIAdd, pCmp, pEq, pNe, eqD, pIsN, pNotN, isNon, pIn, pNotIn, inD, pIdx, pLen, lenD, pAbs, pMax2, pMin2, pInt, pStr, pTuple, pList, pIsi, isiD, eMeth, tyD, pAppend, pCount, pRfind, pSIndex, pJoin, seqOf, Option.map_some, Option.map_none, Option.bind_some, Option.bind_none, Option.bind_eq_bind, Option.pure_def, List.getElem?_cons_zero, List.getElem?_cons_succ, List.getElem?_nil, List.set_cons_zero, List.set_cons_succ, List.set_nil, List.map_cons, List.map_nil, List.cons_append, List.nil_append, List.length_cons, List.length_nil, List.length_map, reduceIte, Bool.not_true, Bool.not_false, Bool.false_eq_true, decide_true, decide_false, Bool.and_true, Bool.true_and, beq_self_eq_true, Nat.zero_add, Option.isSome_some, sizeLine_v, Nat.reduceAdd, Int.cast_ofNat_Int, Int.natCast_zero, Int.natCast_one, Int.reduceEq, Int.reduceLT, Int.reduceLE, Int.reduceNeg, Int.reduceAdd, Int.reduceMul, Int.reduceSub, Nat.reduceEqDiff, Nat.reduceLT, Nat.reduceLeDiff, sFor, iSeq, srcOf, iSrc, pRange1, pRange2, iEnum', srcEn, nat_add1, ht, cutL_mid, s1, one_at, q, refuse_ok ht]
end T75
set_option Elab.async false
set_option linter.all false
set_option maxRecDepth 100000
set_option maxHeartbeats 4000000
namespace T75
open PySem PySem.Spec PyProof.Rows L2 Py
/-! ### words -/
theorem lcp_step {s c : List Nat} : lcp s c = match s, c with
    | x :: s, y :: c => if x = y then lcp s c + 1 else 0
    | _, _ => 0 := by
  cases s with
  | nil => rfl
  | cons x s => cases c <;> rfl
theorem cm_test {t c : List Nat} (ht : t.length ≤ 16777216) (hc : c.length ≤ 16777216) (a n : Nat) (h : HH) : p__common_1 [some (.str t), some (.int a), some (.str c), some (.int n)] h = .ok (match c[n]? with
    | none => false
    | some w => decide (t[a + n]? = some w)) h := by
  cases q : c[n]? with
  | none =>
    have hn : ¬ n < c.length := by
      have := List.getElem?_eq_none_iff.mp q
      omega
    simp only [mkFn, sSeq, sNil, sBrk, sCnt, bindS, sExpr, sRet, sRetN, sIf, sSet, sSetIdx, sAug, sAsg, tgName, tgTup, tgSeq, R.bind, R.of, eVar, eC, eBin, eUn, eChain, tBool, tTru, truth, tNot', tAnd', tOr', tYes', eAnd, eOr, eNot, eIf, aNil, aCons, eTup, eLst, eCallB, eCall, eSl, oNone, oSome, pSl, pAdd, pSub, pMul_ok, pDiv, pMod, pNeg, pIAdd, pCmp, pEq, pNe, eqD, pIsN, pNotN, isNon, pIn, pNotIn, inD, pIdx, pLen, lenD, pAbs, pMax2, pMin2, pInt, pStr, pTuple, pList, pIsi, isiD, eMeth, tyD, pAppend, pCount, pRfind, pSIndex, pJoin, seqOf, Option.map_some, Option.map_none, Option.bind_some, Option.bind_none, Option.bind_eq_bind, Option.pure_def, List.getElem?_cons_zero, List.getElem?_cons_succ, List.getElem?_nil, List.set_cons_zero, List.set_cons_succ, List.set_nil, List.map_cons, List.map_nil, List.cons_append, List.nil_append, List.length_cons, List.length_nil, List.length_map, reduceIte, Bool.not_true, Bool.not_false, Bool.false_eq_true, decide_true, decide_false, Bool.and_true, Bool.true_and, beq_self_eq_true, Nat.zero_add, Option.isSome_some, sizeLine_v, Nat.reduceAdd, Int.cast_ofNat_Int, Int.natCast_zero, Int.natCast_one, Int.reduceEq, Int.reduceLT, Int.reduceLE, Int.reduceNeg, Int.reduceAdd, Int.reduceMul, Int.reduceSub, Nat.reduceEqDiff, Nat.reduceLT, Nat.reduceLeDiff, sFor, iSeq, srcOf, iSrc, pRange1, pRange2, iEnum', srcEn, p__common_1, hc, nat_lt, hn]
  | some w =>
    have hn : n < c.length := (List.getElem?_eq_some_iff.mp q).1
    have hat : L2.atI c (n : Int) = some w := by rw [Py.atI_nat]; exact q
    have s1 : a + n + 1 - (a + n) = 1 := by omega
    simp only [mkFn, sSeq, sNil, sBrk, sCnt, bindS, sExpr, sRet, sRetN, sIf, sSet, sSetIdx, sAug, sAsg, tgName, tgTup, tgSeq, R.bind, R.of, eVar, eC, eBin, eUn, eChain, tBool, tTru, truth, tNot', tAnd', tOr', tYes', eAnd, eOr, eNot, eIf, aNil, aCons, eTup, eLst, eCallB, eCall, eSl, oNone, oSome, pSl, pAdd, pSub, pMul_ok, pDiv, pMod, pNeg, pIAdd, pCmp, pEq, pNe, eqD, pIsN, pNotN, isNon, pIn, pNotIn, inD, pIdx, pLen, lenD, pAbs, pMax2, pMin2, pInt, pStr, pTuple, pList, pIsi, isiD, eMeth, tyD, pAppend, pCount, pRfind, pSIndex, pJoin, seqOf, Option.map_some, Option.map_none, Option.bind_some, Option.bind_none, Option.bind_eq_bind, Option.pure_def, List.getElem?_cons_zero, List.getElem?_cons_succ, List.getElem?_nil, List.set_cons_zero, List.set_cons_succ, List.set_nil, List.map_cons, List.map_nil, List.cons_append, List.nil_append, List.length_cons, List.length_nil, List.length_map, reduceIte, Bool.not_true, Bool.not_false, Bool.false_eq_true, decide_true, decide_false, Bool.and_true, Bool.true_and, beq_self_eq_true, Nat.zero_add, Option.isSome_some, sizeLine_v, Nat.reduceAdd, Int.cast_ofNat_Int, Int.natCast_zero, Int.natCast_one, Int.reduceEq, Int.reduceLT, Int.reduceLE, Int.reduceNeg, Int.reduceAdd, Int.reduceMul, Int.reduceSub, Nat.reduceEqDiff, Nat.reduceLT, Nat.reduceLeDiff, sFor, iSeq, srcOf, iSrc, pRange1, pRange2, iEnum', srcEn, p__common_1, hc, ht, nat_lt, hn, nat_add, nat_add1, cutL_mid, s1, one_at, hat]
theorem cm_loop {t c : List Nat} (ht : t.length ≤ 16777216) (hc : c.length ≤ 16777216) (a : Nat) (h : HH) (r : List Nat) : ∀ n, c.drop n = r → sWhile p__common_1 p__common_2 [some (.str t), some (.int a), some (.str c), some (.int n)] h = .nx [some (.str t), some (.int a), some (.str c), some (.int ((n + lcp (t.drop (a + n)) r : Nat) : Int))] h := by
  induction r with
  | nil =>
    intro n hr
    have q : c[n]? = none := by
      have := congrArg List.length hr
      simp at this
      exact List.getElem?_eq_none_iff.mpr (by omega)
    have T := cm_test ht hc a n h
    rw [q] at T
    rw [while_false T, lcp_step]
    cases t.drop (a + n) <;> simp
  | cons w r ih =>
    intro n hr
    have q : c[n]? = some w := by
      have := congrArg (fun l => l[0]?) hr
      simpa using this
    have hr' : c.drop (n + 1) = r := by
      have := congrArg (List.drop 1) hr
      rw [List.drop_drop] at this
      simpa using this
    have T := cm_test ht hc a n h
    rw [q] at T
    dsimp only at T
    by_cases e : t[a + n]? = some w
    · rw [decide_eq_true e] at T
      have hd : t.drop (a + n) = w :: t.drop (a + (n + 1)) := by
        obtain ⟨hl, e2⟩ := List.getElem?_eq_some_iff.mp e
        rw [List.drop_eq_getElem_cons hl, e2]
        rfl
      have B : p__common_2 [some (.str t), some (.int a), some (.str c), some (.int n)] h = .nx [some (.str t), some (.int a), some (.str c), some (.int ((n + 1 : Nat) : Int))] h := by
        simp only [mkFn, sSeq, sNil, sBrk, sCnt, bindS, sExpr, sRet, sRetN, sIf, sSet, sSetIdx, sAug, sAsg, tgName, tgTup, tgSeq, R.bind, R.of, eVar, eC, eBin, eUn, eChain, tBool, tTru, truth, tNot', tAnd', tOr', tYes', eAnd, eOr, eNot, eIf, aNil, aCons, eTup, eLst, eCallB, eCall, eSl, oNone, oSome, pSl, pAdd, pSub, pMul_ok, pDiv, pMod, pNeg, pIAdd, pCmp, pEq, pNe, eqD, pIsN, pNotN, isNon, pIn, pNotIn, inD, pIdx, pLen, lenD, pAbs, pMax2, pMin2, pInt, pStr, pTuple, pList, pIsi, isiD, eMeth, tyD, pAppend, pCount, pRfind, pSIndex, pJoin, seqOf, Option.map_some, Option.map_none, Option.bind_some, Option.bind_none, Option.bind_eq_bind, Option.pure_def, List.getElem?_cons_zero, List.getElem?_cons_succ, List.getElem?_nil, List.set_cons_zero, List.set_cons_succ, List.set_nil, List.map_cons, List.map_nil, List.cons_append, List.nil_append, List.length_cons, List.length_nil, List.length_map, reduceIte, Bool.not_true, Bool.not_false, Bool.false_eq_true, decide_true, decide_false, Bool.and_true, Bool.true_and, beq_self_eq_true, Nat.zero_add, Option.isSome_some, sizeLine_v, Nat.reduceAdd, Int.cast_ofNat_Int, Int.natCast_zero, Int.natCast_one, Int.reduceEq, Int.reduceLT, Int.reduceLE, Int.reduceNeg, Int.reduceAdd, Int.reduceMul, Int.reduceSub, Nat.reduceEqDiff, Nat.reduceLT, Nat.reduceLeDiff, sFor, iSeq, srcOf, iSrc, pRange1, pRange2, iEnum', srcEn, p__common_2, nat_add1]
      rw [while_true T B, ih (n + 1) hr', hd, lcp_step (s := w :: _)]
      simp only [if_true]
      rw [show n + 1 + lcp (t.drop (a + (n + 1))) r = n + (lcp (t.drop (a + (n + 1))) r + 1) by omega]
    · rw [decide_eq_false e] at T
      rw [while_false T]
      have : lcp (t.drop (a + n)) (w :: r) = 0 := by
        rw [lcp_step]
        cases hd : t.drop (a + n) with
        | nil => rfl
        | cons x s =>
          dsimp only
          rw [if_neg]
          intro z
          apply e
          have := congrArg (fun l => l[0]?) hd
          simpa [z] using this
      rw [this, Nat.add_zero]
theorem common_ok {t c : List Nat} (ht : t.length ≤ 16777216) (hc : c.length ≤ 16777216) (a : Nat) (h : HH) : fn__common [.str t, .int a, .str c] h = .ok (.int (lcp (t.drop a) c : Nat)) h := by
  unfold fn__common b__common
  have L := cm_loop ht hc a h c 0 rfl
  rw [Nat.zero_add, Nat.add_zero, Int.natCast_zero] at L
  simp only [mkFn, sSeq, sNil, sBrk, sCnt, bindS, sExpr, sRet, sRetN, sIf, sSet, sSetIdx, sAug, sAsg, tgName, tgTup, tgSeq, R.bind, R.of, eVar, eC, eBin, eUn, eChain, tBool, tTru, truth, tNot', tAnd', tOr', tYes', eAnd, eOr, eNot, eIf, aNil, aCons, eTup, eLst, eCallB, eCall, eSl, oNone, oSome, pSl, pAdd, pSub, pMul_ok, pDiv, pMod, pNeg, pIAdd, pCmp, pEq, pNe, eqD, pIsN, pNotN, isNon, pIn, pNotIn, inD, pIdx, pLen, lenD, pAbs, pMax2, pMin2, pInt, pStr, pTuple, pList, pIsi, isiD, eMeth, tyD, pAppend, pCount, pRfind, pSIndex, pJoin, seqOf, Option.map_some, Option.map_none, Option.bind_some, Option.bind_none, Option.bind_eq_bind, Option.pure_def, List.getElem?_cons_zero, List.getElem?_cons_succ, List.getElem?_nil, List.set_cons_zero, List.set_cons_succ, List.set_nil, List.map_cons, List.map_nil, List.cons_append, List.nil_append, List.length_cons, List.length_nil, List.length_map, reduceIte, Bool.not_true, Bool.not_false, Bool.false_eq_true, decide_true, decide_false, Bool.and_true, Bool.true_and, beq_self_eq_true, Nat.zero_add, Option.isSome_some, sizeLine_v, Nat.reduceAdd, Int.cast_ofNat_Int, Int.natCast_zero, Int.natCast_one, Int.reduceEq, Int.reduceLT, Int.reduceLE, Int.reduceNeg, Int.reduceAdd, Int.reduceMul, Int.reduceSub, Nat.reduceEqDiff, Nat.reduceLT, Nat.reduceLeDiff, sFor, iSeq, srcOf, iSrc, pRange1, pRange2, iEnum', srcEn, L]
theorem cutL_last {c : List Nat} : cutL c none (some (-1)) = c.dropLast := by
  unfold cutL
  rw [HT.sIx_none, List.drop_zero, Nat.sub_zero, List.dropLast_eq_take]
  congr 1
  show (if (-1 : Int) < 0 then ((-1 : Int) + (c.length : Int)).toNat else min (-1 : Int).toNat c.length) = c.length - 1
  rw [if_pos (by decide)]
  omega
theorem rw_body {t c : List Nat} (ht : t.length ≤ 16777216) (hc : c.length ≤ 16777216) (a best : Nat) (x : Option D) (h : HH) : p__read_word_1 [some (.str t), some (.int a), some (.int best), some (.str c), x] h =
    if lcp (t.drop a) c = c.length then .rt (.tup [.str c.dropLast, .int ((a + c.length : Nat) : Int)]) h else .nx [some (.str t), some (.int a), some (.int ((max best (lcp (t.drop a) c) : Nat) : Int)), some (.str c), some (.int (lcp (t.drop a) c : Nat))] h := by
  have cc := common_ok ht hc a h
  have l := lcp_le_right (t.drop a) c
  generalize lcp (t.drop a) c = m at cc l ⊢
  by_cases q : m = c.length
  · rw [if_pos q]
    simp only [mkFn, sSeq, sNil, sBrk, sCnt, bindS, sExpr, sRet, sRetN, sIf, sSet, sSetIdx, sAug, sAsg, tgName, tgTup, tgSeq, R.bind, R.of, eVar, eC, eBin, eUn, eChain, tBool, tTru, truth, tNot', tAnd', tOr', tYes', eAnd, eOr, eNot, eIf, aNil, aCons, eTup, eLst, eCallB, eCall, eSl, oNone, oSome, pSl, pAdd, pSub, pMul_ok, pDiv, pMod, pNeg, pIAdd, pCmp, pEq, pNe, eqD, pIsN, pNotN, isNon, pIn, pNotIn, inD, pIdx, pLen, lenD, pAbs, pMax2, pMin2, pInt, pStr, pTuple, pList, pIsi, isiD, eMeth, tyD, pAppend, pCount, pRfind, pSIndex, pJoin, seqOf, Option.map_some, Option.map_none, Option.bind_some, Option.bind_none, Option.bind_eq_bind, Option.pure_def, List.getElem?_cons_zero, List.getElem?_cons_succ, List.getElem?_nil, List.set_cons_zero, List.set_cons_succ, List.set_nil, List.map_cons, List.map_nil, List.cons_append, List.nil_append, List.length_cons, List.length_nil, List.length_map, reduceIte, Bool.not_true, Bool.not_false, Bool.false_eq_true, decide_true, decide_false, Bool.and_true, Bool.true_and, beq_self_eq_true, Nat.zero_add, Option.isSome_some, sizeLine_v, Nat.reduceAdd, Int.cast_ofNat_Int, Int.natCast_zero, Int.natCast_one, Int.reduceEq, Int.reduceLT, Int.reduceLE, Int.reduceNeg, Int.reduceAdd, Int.reduceMul, Int.reduceSub, Nat.reduceEqDiff, Nat.reduceLT, Nat.reduceLeDiff, sFor, iSeq, srcOf, iSrc, pRange1, pRange2, iEnum', srcEn, p__read_word_1, cc, hc, nat_eq, q, cutL_last, nat_add]
  · rw [if_neg q]
    by_cases q2 : best < m
    · have q3 : max best m = m := by omega
      simp only [mkFn, sSeq, sNil, sBrk, sCnt, bindS, sExpr, sRet, sRetN, sIf, sSet, sSetIdx, sAug, sAsg, tgName, tgTup, tgSeq, R.bind, R.of, eVar, eC, eBin, eUn, eChain, tBool, tTru, truth, tNot', tAnd', tOr', tYes', eAnd, eOr, eNot, eIf, aNil, aCons, eTup, eLst, eCallB, eCall, eSl, oNone, oSome, pSl, pAdd, pSub, pMul_ok, pDiv, pMod, pNeg, pIAdd, pCmp, pEq, pNe, eqD, pIsN, pNotN, isNon, pIn, pNotIn, inD, pIdx, pLen, lenD, pAbs, pMax2, pMin2, pInt, pStr, pTuple, pList, pIsi, isiD, eMeth, tyD, pAppend, pCount, pRfind, pSIndex, pJoin, seqOf, Option.map_some, Option.map_none, Option.bind_some, Option.bind_none, Option.bind_eq_bind, Option.pure_def, List.getElem?_cons_zero, List.getElem?_cons_succ, List.getElem?_nil, List.set_cons_zero, List.set_cons_succ, List.set_nil, List.map_cons, List.map_nil, List.cons_append, List.nil_append, List.length_cons, List.length_nil, List.length_map, reduceIte, Bool.not_true, Bool.not_false, Bool.false_eq_true, decide_true, decide_false, Bool.and_true, Bool.true_and, beq_self_eq_true, Nat.zero_add, Option.isSome_some, sizeLine_v, Nat.reduceAdd, Int.cast_ofNat_Int, Int.natCast_zero, Int.natCast_one, Int.reduceEq, Int.reduceLT, Int.reduceLE, Int.reduceNeg, Int.reduceAdd, Int.reduceMul, Int.reduceSub, Nat.reduceEqDiff, Nat.reduceLT, Nat.reduceLeDiff, sFor, iSeq, srcOf, iSrc, pRange1, pRange2, iEnum', srcEn, p__read_word_1, cc, hc, nat_eq, q, nat_lt, q2, q3]
    · have q3 : max best m = best := by omega
      simp only [mkFn, sSeq, sNil, sBrk, sCnt, bindS, sExpr, sRet, sRetN, sIf, sSet, sSetIdx, sAug, sAsg, tgName, tgTup, tgSeq, R.bind, R.of, eVar, eC, eBin, eUn, eChain, tBool, tTru, truth, tNot', tAnd', tOr', tYes', eAnd, eOr, eNot, eIf, aNil, aCons, eTup, eLst, eCallB, eCall, eSl, oNone, oSome, pSl, pAdd, pSub, pMul_ok, pDiv, pMod, pNeg, pIAdd, pCmp, pEq, pNe, eqD, pIsN, pNotN, isNon, pIn, pNotIn, inD, pIdx, pLen, lenD, pAbs, pMax2, pMin2, pInt, pStr, pTuple, pList, pIsi, isiD, eMeth, tyD, pAppend, pCount, pRfind, pSIndex, pJoin, seqOf, Option.map_some, Option.map_none, Option.bind_some, Option.bind_none, Option.bind_eq_bind, Option.pure_def, List.getElem?_cons_zero, List.getElem?_cons_succ, List.getElem?_nil, List.set_cons_zero, List.set_cons_succ, List.set_nil, List.map_cons, List.map_nil, List.cons_append, List.nil_append, List.length_cons, List.length_nil, List.length_map, reduceIte, Bool.not_true, Bool.not_false, Bool.false_eq_true, decide_true, decide_false, Bool.and_true, Bool.true_and, beq_self_eq_true, Nat.zero_add, Option.isSome_some, sizeLine_v, Nat.reduceAdd, Int.cast_ofNat_Int, Int.natCast_zero, Int.natCast_one, Int.reduceEq, Int.reduceLT, Int.reduceLE, Int.reduceNeg, Int.reduceAdd, Int.reduceMul, Int.reduceSub, Nat.reduceEqDiff, Nat.reduceLT, Nat.reduceLeDiff, sFor, iSeq, srcOf, iSrc, pRange1, pRange2, iEnum', srcEn, p__read_word_1, cc, hc, nat_eq, q, nat_lt, q2, q3]
theorem rw_loop {t : List Nat} (ht : t.length ≤ 16777216) (a : Nat) (h : HH) : ∀ (C : List (List Nat)) (k best : Nat) (x y : Option D), (∀ c ∈ C, c.length ≤ 16777216) →
    ((∃ i l c, stgGo (t.drop a) C k best = (some (k + i), l) ∧ C[i]? = some c ∧ forL (fun _ => True) (tgName 3) p__read_word_1 (C.map D.str) [some (.str t), some (.int a), some (.int best), x, y] h = .rt (.tup [.str c.dropLast, .int ((a + l : Nat) : Int)]) h) ∨
    (∃ m x' y', stgGo (t.drop a) C k best = (none, m) ∧ forL (fun _ => True) (tgName 3) p__read_word_1 (C.map D.str) [some (.str t), some (.int a), some (.int best), x, y] h = .nx [some (.str t), some (.int a), some (.int m), x', y'] h))
  | [], k, best, x, y, _ => .inr ⟨best, x, y, rfl, by unfold List.map; unfold forL; exact if_pos trivial⟩
  | c :: C, k, best, x, y, hC => by
    have B := rw_body ht (hC c (by simp)) a best y h
    rw [List.map_cons]
    have one : ∀ o, p__read_word_1 [some (.str t), some (.int a), some (.int best), some (.str c), y] h = o → forL (fun _ => True) (tgName 3) p__read_word_1 (D.str c :: C.map D.str) [some (.str t), some (.int a), some (.int best), x, y] h = match o with
        | .nx ρ' h' => forL (fun _ => True) (tgName 3) p__read_word_1 (C.map D.str) ρ' h'
        | .ct ρ' h' => forL (fun _ => True) (tgName 3) p__read_word_1 (C.map D.str) ρ' h'
        | .bk ρ' h' => .nx ρ' h'
        | o => o := by
      intro o ho
      rw [forL]
      rw [if_pos trivial]
      show (match p__read_word_1 [some (.str t), some (.int a), some (.int best), some (.str c), y] h with
        | .nx ρ' h' => forL (fun _ => True) (tgName 3) p__read_word_1 (C.map D.str) ρ' h'
        | .ct ρ' h' => forL (fun _ => True) (tgName 3) p__read_word_1 (C.map D.str) ρ' h'
        | .bk ρ' h' => .nx ρ' h'
        | o => o) = _
      rw [ho]
    rw [one _ B]
    unfold stgGo
    by_cases q : lcp (t.drop a) c = c.length
    · rw [if_pos q, if_pos q]
      exact .inl ⟨0, _, c, rfl, rfl, rfl⟩
    · rw [if_neg q, if_neg q]
      dsimp only
      rcases rw_loop ht a h C (k + 1) (max best (lcp (t.drop a) c)) (some (.str c)) (some (.int (lcp (t.drop a) c : Nat))) (fun c hc => hC c (by simp [hc])) with ⟨i, l, c', e1, e2, e3⟩ | ⟨m, x', y', e1, e2⟩
      · exact .inl ⟨i + 1, l, c', by rw [e1, show k + 1 + i = k + (i + 1) by omega], by simpa using e2, e3⟩
      · exact .inr ⟨m, x', y', e1, e2⟩
theorem ended_map : ended.map D.str = [.str [97, 115, 107, 32], .str [97, 114, 114, 105, 118, 101, 32], .str [100, 111, 32], .str [97, 103, 97, 105, 110, 32], .str [104, 101, 97, 114, 32], .str [108, 97, 116, 101, 32], .str [99, 114, 97, 115, 104, 10], .str [103, 105, 118, 101, 32, 117, 112, 10]] := rfl
theorem ended_len : ∀ c ∈ ended, c.length ≤ 16777216 := by decide
theorem rword_ok {t : List Nat} (ht : t.length ≤ 16777216) (a : Nat) (h : HH) : fn__read_word [.str t, .int a] h = match stgGo (t.drop a) ended 0 0 with
    | (none, m) => .ex "BadLine" (bl t (a + m)) h
    | (some k, l) => .ok (.tup [.str (wd k), .int ((a + l : Nat) : Int)]) h := by
  unfold fn__read_word b__read_word
  have L := rw_loop ht a h ended 0 0 none none ended_len
  rw [Int.natCast_zero] at L
  simp only [mkFn, sSeq, sNil, sBrk, sCnt, bindS, sExpr, sRet, sRetN, sIf, sSet, sSetIdx, sAug, sAsg, tgName, tgTup, tgSeq, R.bind, R.of, eVar, eC, eBin, eUn, eChain, tBool, tTru, truth, tNot', tAnd', tOr', tYes', eAnd, eOr, eNot, eIf, aNil, aCons, eTup, eLst, eCallB, eCall, eSl, oNone, oSome, pSl, pAdd, pSub, pMul_ok, pDiv, pMod, pNeg, pIAdd, pCmp, pEq, pNe, eqD, pIsN, pNotN, isNon, pIn, pNotIn, inD, pIdx, pLen, lenD, pAbs, pMax2, pMin2, pInt, pStr, pTuple, pList, pIsi, isiD, eMeth, tyD, pAppend, pCount, pRfind, pSIndex, pJoin, seqOf, Option.map_some, Option.map_none, Option.bind_some, Option.bind_none, Option.bind_eq_bind, Option.pure_def, List.getElem?_cons_zero, List.getElem?_cons_succ, List.getElem?_nil, List.set_cons_zero, List.set_cons_succ, List.set_nil, List.map_cons, List.map_nil, List.cons_append, List.nil_append, List.length_cons, List.length_nil, List.length_map, reduceIte, Bool.not_true, Bool.not_false, Bool.false_eq_true, decide_true, decide_false, Bool.and_true, Bool.true_and, beq_self_eq_true, Nat.zero_add, Option.isSome_some, sizeLine_v, Nat.reduceAdd, Int.cast_ofNat_Int, Int.natCast_zero, Int.natCast_one, Int.reduceEq, Int.reduceLT, Int.reduceLE, Int.reduceNeg, Int.reduceAdd, Int.reduceMul, Int.reduceSub, Nat.reduceEqDiff, Nat.reduceLT, Nat.reduceLeDiff, sFor, iSeq, srcOf, iSrc, pRange1, pRange2, iEnum', srcEn, ← ended_map]
  rcases L with ⟨i, l, c, e1, e2, e3⟩ | ⟨m, x', y', e1, e2⟩
  · rw [Nat.zero_add] at e1
    rw [e3, e1]
    obtain ⟨_, rfl⟩ := ended_at e2
    rfl
  · rw [e2, e1]
    simp only [mkFn, sSeq, sNil, sBrk, sCnt, bindS, sExpr, sRet, sRetN, sIf, sSet, sSetIdx, sAug, sAsg, tgName, tgTup, tgSeq, R.bind, R.of, eVar, eC, eBin, eUn, eChain, tBool, tTru, truth, tNot', tAnd', tOr', tYes', eAnd, eOr, eNot, eIf, aNil, aCons, eTup, eLst, eCallB, eCall, eSl, oNone, oSome, pSl, pAdd, pSub, pMul_ok, pDiv, pMod, pNeg, pIAdd, pCmp, pEq, pNe, eqD, pIsN, pNotN, isNon, pIn, pNotIn, inD, pIdx, pLen, lenD, pAbs, pMax2, pMin2, pInt, pStr, pTuple, pList, pIsi, isiD, eMeth, tyD, pAppend, pCount, pRfind, pSIndex, pJoin, seqOf, Option.map_some, Option.map_none, Option.bind_some, Option.bind_none, Option.bind_eq_bind, Option.pure_def, List.getElem?_cons_zero, List.getElem?_cons_succ, List.getElem?_nil, List.set_cons_zero, List.set_cons_succ, List.set_nil, List.map_cons, List.map_nil, List.cons_append, List.nil_append, List.length_cons, List.length_nil, List.length_map, reduceIte, Bool.not_true, Bool.not_false, Bool.false_eq_true, decide_true, decide_false, Bool.and_true, Bool.true_and, beq_self_eq_true, Nat.zero_add, Option.isSome_some, sizeLine_v, Nat.reduceAdd, Int.cast_ofNat_Int, Int.natCast_zero, Int.natCast_one, Int.reduceEq, Int.reduceLT, Int.reduceLE, Int.reduceNeg, Int.reduceAdd, Int.reduceMul, Int.reduceSub, Nat.reduceEqDiff, Nat.reduceLT, Nat.reduceLeDiff, sFor, iSeq, srcOf, iSrc, pRange1, pRange2, iEnum', srcEn, nat_add, refuse_ok ht]
end T75
set_option Elab.async false
set_option linter.all false
set_option maxRecDepth 100000
set_option maxHeartbeats 4000000
namespace T75
open PySem PySem.Spec PyProof.Rows L2 Py
/-! ### the law's own reading -/
theorem st_in {t : List Nat} (ht : t.length ≤ 16777216) (a : Nat) (h : HH) (ref : D) (best k : D) : ∀ (r : List Nat) (n : Nat) (x : Option D),
    ∃ x', forL (fun _ => True) (tgName 6) p__law_stage_1 (r.map fun c => .str [c]) [some (.str t), some (.int a), some ref, some best, some k, some (.int n), x] h = .nx [some (.str t), some (.int a), some ref, some best, some k, some (.int ((n + lcp (t.drop (a + n)) r : Nat) : Int)), x'] h
  | [], n, x => by
    refine ⟨x, ?_⟩
    rw [lcp_step]
    have : lcp (t.drop (a + n)) [] = 0 := by rw [lcp_step]; cases t.drop (a + n) <;> rfl
    cases hd : t.drop (a + n) <;> (rw [List.map_nil]; unfold forL; exact if_pos trivial)
  | w :: r, n, x => by
    have s1 : a + n + 1 - (a + n) = 1 := by omega
    rw [List.map_cons, forL, if_pos trivial]
    by_cases e : t[a + n]? = some w
    · have hd : t.drop (a + n) = w :: t.drop (a + (n + 1)) := by
        obtain ⟨hl, e2⟩ := List.getElem?_eq_some_iff.mp e
        rw [List.drop_eq_getElem_cons hl, e2]
        rfl
      obtain ⟨x', ih⟩ := st_in ht a h ref best k r (n + 1) (some (.str [w]))
      refine ⟨x', ?_⟩
      have B : p__law_stage_1 [some (.str t), some (.int a), some ref, some best, some k, some (.int n), some (.str [w])] h = .nx [some (.str t), some (.int a), some ref, some best, some k, some (.int ((n + 1 : Nat) : Int)), some (.str [w])] h := by
        simp only [mkFn, sSeq, sNil, sBrk, sCnt, bindS, sExpr, sRet, sRetN, sIf, sSet, sSetIdx, sAug, sAsg, tgName, tgTup, tgSeq, R.bind, R.of, eVar, eC, eBin, eUn, eChain, tBool, tTru, truth, tNot', tAnd', tOr', tYes', eAnd, eOr, eNot, eIf, aNil, aCons, eTup, eLst, eCallB, eCall, eSl, oNone, oSome, pSl, pAdd, pSub, pMul_ok, pDiv, pMod, pNeg, pIAdd, pCmp, pEq, pNe, eqD, pIsN, pNotN, isNon, pIn, pNotIn, inD, pIdx, pLen, lenD, pAbs, pMax2, pMin2, pInt, pStr, pTuple, pList, pIsi, isiD, eMeth, tyD, pAppend, pCount, pRfind, pSIndex, pJoin, seqOf, Option.map_some, Option.map_none, Option.bind_some, Option.bind_none, Option.bind_eq_bind, Option.pure_def, List.getElem?_cons_zero, List.getElem?_cons_succ, List.getElem?_nil, List.set_cons_zero, List.set_cons_succ, List.set_nil, List.map_cons, List.map_nil, List.cons_append, List.nil_append, List.length_cons, List.length_nil, List.length_map, reduceIte, Bool.not_true, Bool.not_false, Bool.false_eq_true, decide_true, decide_false, Bool.and_true, Bool.true_and, beq_self_eq_true, Nat.zero_add, Option.isSome_some, sizeLine_v, Nat.reduceAdd, Int.cast_ofNat_Int, Int.natCast_zero, Int.natCast_one, Int.reduceEq, Int.reduceLT, Int.reduceLE, Int.reduceNeg, Int.reduceAdd, Int.reduceMul, Int.reduceSub, Nat.reduceEqDiff, Nat.reduceLT, Nat.reduceLeDiff, sFor, iSeq, srcOf, iSrc, pRange1, pRange2, iEnum', srcEn, p__law_stage_1, ht, nat_add, nat_add1, cutL_mid, s1, one_at, e]
      simp only [mkFn, sSeq, sNil, sBrk, sCnt, bindS, sExpr, sRet, sRetN, sIf, sSet, sSetIdx, sAug, sAsg, tgName, tgTup, tgSeq, R.bind, R.of, eVar, eC, eBin, eUn, eChain, tBool, tTru, truth, tNot', tAnd', tOr', tYes', eAnd, eOr, eNot, eIf, aNil, aCons, eTup, eLst, eCallB, eCall, eSl, oNone, oSome, pSl, pAdd, pSub, pMul_ok, pDiv, pMod, pNeg, pIAdd, pCmp, pEq, pNe, eqD, pIsN, pNotN, isNon, pIn, pNotIn, inD, pIdx, pLen, lenD, pAbs, pMax2, pMin2, pInt, pStr, pTuple, pList, pIsi, isiD, eMeth, tyD, pAppend, pCount, pRfind, pSIndex, pJoin, seqOf, Option.map_some, Option.map_none, Option.bind_some, Option.bind_none, Option.bind_eq_bind, Option.pure_def, List.getElem?_cons_zero, List.getElem?_cons_succ, List.getElem?_nil, List.set_cons_zero, List.set_cons_succ, List.set_nil, List.map_cons, List.map_nil, List.cons_append, List.nil_append, List.length_cons, List.length_nil, List.length_map, reduceIte, Bool.not_true, Bool.not_false, Bool.false_eq_true, decide_true, decide_false, Bool.and_true, Bool.true_and, beq_self_eq_true, Nat.zero_add, Option.isSome_some, sizeLine_v, Nat.reduceAdd, Int.cast_ofNat_Int, Int.natCast_zero, Int.natCast_one, Int.reduceEq, Int.reduceLT, Int.reduceLE, Int.reduceNeg, Int.reduceAdd, Int.reduceMul, Int.reduceSub, Nat.reduceEqDiff, Nat.reduceLT, Nat.reduceLeDiff, sFor, iSeq, srcOf, iSrc, pRange1, pRange2, iEnum', srcEn, B]
      rw [ih, hd, lcp_step (s := w :: _)]
      dsimp only
      rw [if_pos rfl, show n + 1 + lcp (t.drop (a + (n + 1))) r = n + (lcp (t.drop (a + (n + 1))) r + 1) by omega]
    · refine ⟨some (.str [w]), ?_⟩
      have B : p__law_stage_1 [some (.str t), some (.int a), some ref, some best, some k, some (.int n), some (.str [w])] h = .bk [some (.str t), some (.int a), some ref, some best, some k, some (.int n), some (.str [w])] h := by
        simp only [mkFn, sSeq, sNil, sBrk, sCnt, bindS, sExpr, sRet, sRetN, sIf, sSet, sSetIdx, sAug, sAsg, tgName, tgTup, tgSeq, R.bind, R.of, eVar, eC, eBin, eUn, eChain, tBool, tTru, truth, tNot', tAnd', tOr', tYes', eAnd, eOr, eNot, eIf, aNil, aCons, eTup, eLst, eCallB, eCall, eSl, oNone, oSome, pSl, pAdd, pSub, pMul_ok, pDiv, pMod, pNeg, pIAdd, pCmp, pEq, pNe, eqD, pIsN, pNotN, isNon, pIn, pNotIn, inD, pIdx, pLen, lenD, pAbs, pMax2, pMin2, pInt, pStr, pTuple, pList, pIsi, isiD, eMeth, tyD, pAppend, pCount, pRfind, pSIndex, pJoin, seqOf, Option.map_some, Option.map_none, Option.bind_some, Option.bind_none, Option.bind_eq_bind, Option.pure_def, List.getElem?_cons_zero, List.getElem?_cons_succ, List.getElem?_nil, List.set_cons_zero, List.set_cons_succ, List.set_nil, List.map_cons, List.map_nil, List.cons_append, List.nil_append, List.length_cons, List.length_nil, List.length_map, reduceIte, Bool.not_true, Bool.not_false, Bool.false_eq_true, decide_true, decide_false, Bool.and_true, Bool.true_and, beq_self_eq_true, Nat.zero_add, Option.isSome_some, sizeLine_v, Nat.reduceAdd, Int.cast_ofNat_Int, Int.natCast_zero, Int.natCast_one, Int.reduceEq, Int.reduceLT, Int.reduceLE, Int.reduceNeg, Int.reduceAdd, Int.reduceMul, Int.reduceSub, Nat.reduceEqDiff, Nat.reduceLT, Nat.reduceLeDiff, sFor, iSeq, srcOf, iSrc, pRange1, pRange2, iEnum', srcEn, p__law_stage_1, ht, nat_add, nat_add1, cutL_mid, s1, one_at, e]
      simp only [mkFn, sSeq, sNil, sBrk, sCnt, bindS, sExpr, sRet, sRetN, sIf, sSet, sSetIdx, sAug, sAsg, tgName, tgTup, tgSeq, R.bind, R.of, eVar, eC, eBin, eUn, eChain, tBool, tTru, truth, tNot', tAnd', tOr', tYes', eAnd, eOr, eNot, eIf, aNil, aCons, eTup, eLst, eCallB, eCall, eSl, oNone, oSome, pSl, pAdd, pSub, pMul_ok, pDiv, pMod, pNeg, pIAdd, pCmp, pEq, pNe, eqD, pIsN, pNotN, isNon, pIn, pNotIn, inD, pIdx, pLen, lenD, pAbs, pMax2, pMin2, pInt, pStr, pTuple, pList, pIsi, isiD, eMeth, tyD, pAppend, pCount, pRfind, pSIndex, pJoin, seqOf, Option.map_some, Option.map_none, Option.bind_some, Option.bind_none, Option.bind_eq_bind, Option.pure_def, List.getElem?_cons_zero, List.getElem?_cons_succ, List.getElem?_nil, List.set_cons_zero, List.set_cons_succ, List.set_nil, List.map_cons, List.map_nil, List.cons_append, List.nil_append, List.length_cons, List.length_nil, List.length_map, reduceIte, Bool.not_true, Bool.not_false, Bool.false_eq_true, decide_true, decide_false, Bool.and_true, Bool.true_and, beq_self_eq_true, Nat.zero_add, Option.isSome_some, sizeLine_v, Nat.reduceAdd, Int.cast_ofNat_Int, Int.natCast_zero, Int.natCast_one, Int.reduceEq, Int.reduceLT, Int.reduceLE, Int.reduceNeg, Int.reduceAdd, Int.reduceMul, Int.reduceSub, Nat.reduceEqDiff, Nat.reduceLT, Nat.reduceLeDiff, sFor, iSeq, srcOf, iSrc, pRange1, pRange2, iEnum', srcEn, B]
      have : lcp (t.drop (a + n)) (w :: r) = 0 := by
        rw [lcp_step]
        cases hd : t.drop (a + n) with
        | nil => rfl
        | cons x s =>
          dsimp only
          rw [if_neg]
          intro z
          apply e
          have := congrArg (fun l => l[0]?) hd
          simpa [z] using this
      rw [this, Nat.add_zero]
theorem st_body {t c : List Nat} (ht : t.length ≤ 16777216) (hc : c.length ≤ 16777216) {C : List (List Nat)} {w : Nat} {h : HH} (hw : itemsL h w = some (C.map D.str)) (a best k : Nat) (x y : Option D) (hk : C[k]? = some c) :
    (lcp (t.drop a) c = c.length → p__law_stage_2 [some (.str t), some (.int a), some (.ref w), some (.int best), some (.int k), x, y] h = .rt (.tup [.int k, .int ((a + c.length : Nat) : Int)]) h) ∧
    (¬ lcp (t.drop a) c = c.length → ∃ x' y', p__law_stage_2 [some (.str t), some (.int a), some (.ref w), some (.int best), some (.int k), x, y] h = .nx [some (.str t), some (.int a), some (.ref w), some (.int ((max best (lcp (t.drop a) c) : Nat) : Int)), some (.int k), x', y'] h) := by
  have hat : L2.atI (C.map D.str) (k : Int) = some (.str c) := by rw [Py.atI_nat, List.getElem?_map, hk]; rfl
  obtain ⟨x', I⟩ := st_in ht a h (.ref w) (.int best) (.int k) c 0 y
  rw [Nat.zero_add, Nat.add_zero, Int.natCast_zero] at I
  have l := lcp_le_right (t.drop a) c
  generalize lcp (t.drop a) c = m at I l ⊢
  refine ⟨fun q => ?_, fun q => ?_⟩
  · subst q
    simp only [mkFn, sSeq, sNil, sBrk, sCnt, bindS, sExpr, sRet, sRetN, sIf, sSet, sSetIdx, sAug, sAsg, tgName, tgTup, tgSeq, R.bind, R.of, eVar, eC, eBin, eUn, eChain, tBool, tTru, truth, tNot', tAnd', tOr', tYes', eAnd, eOr, eNot, eIf, aNil, aCons, eTup, eLst, eCallB, eCall, eSl, oNone, oSome, pSl, pAdd, pSub, pMul_ok, pDiv, pMod, pNeg, pIAdd, pCmp, pEq, pNe, eqD, pIsN, pNotN, isNon, pIn, pNotIn, inD, pIdx, pLen, lenD, pAbs, pMax2, pMin2, pInt, pStr, pTuple, pList, pIsi, isiD, eMeth, tyD, pAppend, pCount, pRfind, pSIndex, pJoin, seqOf, Option.map_some, Option.map_none, Option.bind_some, Option.bind_none, Option.bind_eq_bind, Option.pure_def, List.getElem?_cons_zero, List.getElem?_cons_succ, List.getElem?_nil, List.set_cons_zero, List.set_cons_succ, List.set_nil, List.map_cons, List.map_nil, List.cons_append, List.nil_append, List.length_cons, List.length_nil, List.length_map, reduceIte, Bool.not_true, Bool.not_false, Bool.false_eq_true, decide_true, decide_false, Bool.and_true, Bool.true_and, beq_self_eq_true, Nat.zero_add, Option.isSome_some, sizeLine_v, Nat.reduceAdd, Int.cast_ofNat_Int, Int.natCast_zero, Int.natCast_one, Int.reduceEq, Int.reduceLT, Int.reduceLE, Int.reduceNeg, Int.reduceAdd, Int.reduceMul, Int.reduceSub, Nat.reduceEqDiff, Nat.reduceLT, Nat.reduceLeDiff, sFor, iSeq, srcOf, iSrc, pRange1, pRange2, iEnum', srcEn, p__law_stage_2, hw, hat, I, hc, nat_add]
  · refine ⟨some (.int m), x', ?_⟩
    by_cases q2 : best < m
    · have q3 : max best m = m := by omega
      simp only [mkFn, sSeq, sNil, sBrk, sCnt, bindS, sExpr, sRet, sRetN, sIf, sSet, sSetIdx, sAug, sAsg, tgName, tgTup, tgSeq, R.bind, R.of, eVar, eC, eBin, eUn, eChain, tBool, tTru, truth, tNot', tAnd', tOr', tYes', eAnd, eOr, eNot, eIf, aNil, aCons, eTup, eLst, eCallB, eCall, eSl, oNone, oSome, pSl, pAdd, pSub, pMul_ok, pDiv, pMod, pNeg, pIAdd, pCmp, pEq, pNe, eqD, pIsN, pNotN, isNon, pIn, pNotIn, inD, pIdx, pLen, lenD, pAbs, pMax2, pMin2, pInt, pStr, pTuple, pList, pIsi, isiD, eMeth, tyD, pAppend, pCount, pRfind, pSIndex, pJoin, seqOf, Option.map_some, Option.map_none, Option.bind_some, Option.bind_none, Option.bind_eq_bind, Option.pure_def, List.getElem?_cons_zero, List.getElem?_cons_succ, List.getElem?_nil, List.set_cons_zero, List.set_cons_succ, List.set_nil, List.map_cons, List.map_nil, List.cons_append, List.nil_append, List.length_cons, List.length_nil, List.length_map, reduceIte, Bool.not_true, Bool.not_false, Bool.false_eq_true, decide_true, decide_false, Bool.and_true, Bool.true_and, beq_self_eq_true, Nat.zero_add, Option.isSome_some, sizeLine_v, Nat.reduceAdd, Int.cast_ofNat_Int, Int.natCast_zero, Int.natCast_one, Int.reduceEq, Int.reduceLT, Int.reduceLE, Int.reduceNeg, Int.reduceAdd, Int.reduceMul, Int.reduceSub, Nat.reduceEqDiff, Nat.reduceLT, Nat.reduceLeDiff, sFor, iSeq, srcOf, iSrc, pRange1, pRange2, iEnum', srcEn, p__law_stage_2, hw, hat, I, hc, nat_eq, q, nat_lt, q2, q3]
    · have q3 : max best m = best := by omega
      simp only [mkFn, sSeq, sNil, sBrk, sCnt, bindS, sExpr, sRet, sRetN, sIf, sSet, sSetIdx, sAug, sAsg, tgName, tgTup, tgSeq, R.bind, R.of, eVar, eC, eBin, eUn, eChain, tBool, tTru, truth, tNot', tAnd', tOr', tYes', eAnd, eOr, eNot, eIf, aNil, aCons, eTup, eLst, eCallB, eCall, eSl, oNone, oSome, pSl, pAdd, pSub, pMul_ok, pDiv, pMod, pNeg, pIAdd, pCmp, pEq, pNe, eqD, pIsN, pNotN, isNon, pIn, pNotIn, inD, pIdx, pLen, lenD, pAbs, pMax2, pMin2, pInt, pStr, pTuple, pList, pIsi, isiD, eMeth, tyD, pAppend, pCount, pRfind, pSIndex, pJoin, seqOf, Option.map_some, Option.map_none, Option.bind_some, Option.bind_none, Option.bind_eq_bind, Option.pure_def, List.getElem?_cons_zero, List.getElem?_cons_succ, List.getElem?_nil, List.set_cons_zero, List.set_cons_succ, List.set_nil, List.map_cons, List.map_nil, List.cons_append, List.nil_append, List.length_cons, List.length_nil, List.length_map, reduceIte, Bool.not_true, Bool.not_false, Bool.false_eq_true, decide_true, decide_false, Bool.and_true, Bool.true_and, beq_self_eq_true, Nat.zero_add, Option.isSome_some, sizeLine_v, Nat.reduceAdd, Int.cast_ofNat_Int, Int.natCast_zero, Int.natCast_one, Int.reduceEq, Int.reduceLT, Int.reduceLE, Int.reduceNeg, Int.reduceAdd, Int.reduceMul, Int.reduceSub, Nat.reduceEqDiff, Nat.reduceLT, Nat.reduceLeDiff, sFor, iSeq, srcOf, iSrc, pRange1, pRange2, iEnum', srcEn, p__law_stage_2, hw, hat, I, hc, nat_eq, q, nat_lt, q2, q3]
theorem stg_drop {s : List Nat} {C : List (List Nat)} {k best : Nat} {c : List Nat} (hk : C[k]? = some c) (k0 : Nat) : stgGo s (C.drop k) k0 best = if lcp s c = c.length then (some k0, c.length) else stgGo s (C.drop (k + 1)) (k0 + 1) (max best (lcp s c)) := by
  obtain ⟨hl, e⟩ := List.getElem?_eq_some_iff.mp hk
  rw [List.drop_eq_getElem_cons hl, e]
  rfl
theorem stage_ok {t : List Nat} (ht : t.length ≤ 16777216) {C : List (List Nat)} {w : Nat} {h : HH} (hw : itemsL h w = some (C.map D.str)) (hC : ∀ c ∈ C, c.length ≤ 16777216) (hl : C.length ≤ 1000) (a : Nat) : fn__law_stage [.str t, .int a, .ref w] h = match stgGo (t.drop a) C 0 0 with
    | (none, m) => .ok (.tup [.int (-1), .int ((a + m : Nat) : Int)]) h
    | (some k, l) => .ok (.tup [.int k, .int ((a + l : Nat) : Int)]) h := by
  unfold fn__law_stage b__law_stage
  have hr : InR (C.length : Int) := ⟨by omega, by omega⟩
  simp only [mkFn, sSeq, sNil, sBrk, sCnt, bindS, sExpr, sRet, sRetN, sIf, sSet, sSetIdx, sAug, sAsg, tgName, tgTup, tgSeq, R.bind, R.of, eVar, eC, eBin, eUn, eChain, tBool, tTru, truth, tNot', tAnd', tOr', tYes', eAnd, eOr, eNot, eIf, aNil, aCons, eTup, eLst, eCallB, eCall, eSl, oNone, oSome, pSl, pAdd, pSub, pMul_ok, pDiv, pMod, pNeg, pIAdd, pCmp, pEq, pNe, eqD, pIsN, pNotN, isNon, pIn, pNotIn, inD, pIdx, pLen, lenD, pAbs, pMax2, pMin2, pInt, pStr, pTuple, pList, pIsi, isiD, eMeth, tyD, pAppend, pCount, pRfind, pSIndex, pJoin, seqOf, Option.map_some, Option.map_none, Option.bind_some, Option.bind_none, Option.bind_eq_bind, Option.pure_def, List.getElem?_cons_zero, List.getElem?_cons_succ, List.getElem?_nil, List.set_cons_zero, List.set_cons_succ, List.set_nil, List.map_cons, List.map_nil, List.cons_append, List.nil_append, List.length_cons, List.length_nil, List.length_map, reduceIte, Bool.not_true, Bool.not_false, Bool.false_eq_true, decide_true, decide_false, Bool.and_true, Bool.true_and, beq_self_eq_true, Nat.zero_add, Option.isSome_some, sizeLine_v, Nat.reduceAdd, Int.cast_ofNat_Int, Int.natCast_zero, Int.natCast_one, Int.reduceEq, Int.reduceLT, Int.reduceLE, Int.reduceNeg, Int.reduceAdd, Int.reduceMul, Int.reduceSub, Nat.reduceEqDiff, Nat.reduceLT, Nat.reduceLeDiff, sFor, iSeq, srcOf, iSrc, pRange1, pRange2, iEnum', srcEn, hw, hr]
  generalize ho : forL _ _ _ _ _ _ = o
  have key : (∃ k l, stgGo (t.drop a) C 0 0 = (some k, l) ∧ o = .rt (.tup [.int k, .int ((a + l : Nat) : Int)]) h) ∨ (∃ m x y z, stgGo (t.drop a) C 0 0 = (none, m) ∧ o = .nx [some (.str t), some (.int a), some (.ref w), some (.int m), x, y, z] h) := by
    refine forL_run ho (fun i ρ h' => i ≤ C.length ∧ ∃ (best : Nat) (x y z : Option D), ρ = [some (.str t), some (.int a), some (.ref w), some (.int best), x, y, z] ∧ h' = h ∧ stgGo (t.drop a) C 0 0 = stgGo (t.drop a) (C.drop i) i best) (fun o => (∃ k l, stgGo (t.drop a) C 0 0 = (some k, l) ∧ o = .rt (.tup [.int k, .int ((a + l : Nat) : Int)]) h) ∨ (∃ m x y z, stgGo (t.drop a) C 0 0 = (none, m) ∧ o = .nx [some (.str t), some (.int a), some (.ref w), some (.int m), x, y, z] h)) ?_ ?_ ⟨Nat.zero_le _, 0, none, none, none, rfl, rfl, rfl⟩
    · rintro i d ρ h' hi ⟨hil, best, x, y, z, rfl, rfl, e⟩
      obtain ⟨hin, rfl⟩ := rgD_get hi
      have hin' : i < C.length := by omega
      have hk := List.getElem?_eq_getElem hin'
      obtain ⟨B1, B2⟩ := st_body ht (hC _ (List.getElem_mem hin')) hw a best i y z hk
      refine ⟨trivial, [some (.str t), some (.int a), some (.ref w), some (.int best), some (.int i), y, z], by simp only [mkFn, sSeq, sNil, sBrk, sCnt, bindS, sExpr, sRet, sRetN, sIf, sSet, sSetIdx, sAug, sAsg, tgName, tgTup, tgSeq, R.bind, R.of, eVar, eC, eBin, eUn, eChain, tBool, tTru, truth, tNot', tAnd', tOr', tYes', eAnd, eOr, eNot, eIf, aNil, aCons, eTup, eLst, eCallB, eCall, eSl, oNone, oSome, pSl, pAdd, pSub, pMul_ok, pDiv, pMod, pNeg, pIAdd, pCmp, pEq, pNe, eqD, pIsN, pNotN, isNon, pIn, pNotIn, inD, pIdx, pLen, lenD, pAbs, pMax2, pMin2, pInt, pStr, pTuple, pList, pIsi, isiD, eMeth, tyD, pAppend, pCount, pRfind, pSIndex, pJoin, seqOf, Option.map_some, Option.map_none, Option.bind_some, Option.bind_none, Option.bind_eq_bind, Option.pure_def, List.getElem?_cons_zero, List.getElem?_cons_succ, List.getElem?_nil, List.set_cons_zero, List.set_cons_succ, List.set_nil, List.map_cons, List.map_nil, List.cons_append, List.nil_append, List.length_cons, List.length_nil, List.length_map, reduceIte, Bool.not_true, Bool.not_false, Bool.false_eq_true, decide_true, decide_false, Bool.and_true, Bool.true_and, beq_self_eq_true, Nat.zero_add, Option.isSome_some, sizeLine_v, Nat.reduceAdd, Int.cast_ofNat_Int, Int.natCast_zero, Int.natCast_one, Int.reduceEq, Int.reduceLT, Int.reduceLE, Int.reduceNeg, Int.reduceAdd, Int.reduceMul, Int.reduceSub, Nat.reduceEqDiff, Nat.reduceLT, Nat.reduceLeDiff, sFor, iSeq, srcOf, iSrc, pRange1, pRange2, iEnum', srcEn, Int.zero_add], ?_⟩
      rw [stg_drop hk] at e
      by_cases q : lcp (t.drop a) C[i] = (C[i]).length
      · rw [B1 q]
        rw [if_pos q] at e
        exact .inl ⟨_, _, e, rfl⟩
      · obtain ⟨x', y', B⟩ := B2 q
        rw [B]
        rw [if_neg q] at e
        exact ⟨by omega, _, _, _, _, rfl, rfl, e⟩
    · rintro ρ h' ⟨hil, best, x, y, z, rfl, rfl, e⟩
      rw [rgD_len] at e
      refine ⟨trivial, .inr ⟨best, x, y, z, ?_, rfl⟩⟩
      rw [e, List.drop_of_length_le (l := C) (by omega)]
      rfl
  rcases key with ⟨k, l, e1, e2⟩ | ⟨m, x, y, z, e1, e2⟩
  · subst e2
    rw [e1]
  · subst e2
    rw [e1]
    simp only [mkFn, sSeq, sNil, sBrk, sCnt, bindS, sExpr, sRet, sRetN, sIf, sSet, sSetIdx, sAug, sAsg, tgName, tgTup, tgSeq, R.bind, R.of, eVar, eC, eBin, eUn, eChain, tBool, tTru, truth, tNot', tAnd', tOr', tYes', eAnd, eOr, eNot, eIf, aNil, aCons, eTup, eLst, eCallB, eCall, eSl, oNone, oSome, pSl, pAdd, pSub, pMul_ok, pDiv, pMod, pNeg, pIAdd, pCmp, pEq, pNe, eqD, pIsN, pNotN, isNon, pIn, pNotIn, inD, pIdx, pLen, lenD, pAbs, pMax2, pMin2, pInt, pStr, pTuple, pList, pIsi, isiD, eMeth, tyD, pAppend, pCount, pRfind, pSIndex, pJoin, seqOf, Option.map_some, Option.map_none, Option.bind_some, Option.bind_none, Option.bind_eq_bind, Option.pure_def, List.getElem?_cons_zero, List.getElem?_cons_succ, List.getElem?_nil, List.set_cons_zero, List.set_cons_succ, List.set_nil, List.map_cons, List.map_nil, List.cons_append, List.nil_append, List.length_cons, List.length_nil, List.length_map, reduceIte, Bool.not_true, Bool.not_false, Bool.false_eq_true, decide_true, decide_false, Bool.and_true, Bool.true_and, beq_self_eq_true, Nat.zero_add, Option.isSome_some, sizeLine_v, Nat.reduceAdd, Int.cast_ofNat_Int, Int.natCast_zero, Int.natCast_one, Int.reduceEq, Int.reduceLT, Int.reduceLE, Int.reduceNeg, Int.reduceAdd, Int.reduceMul, Int.reduceSub, Nat.reduceEqDiff, Nat.reduceLT, Nat.reduceLeDiff, sFor, iSeq, srcOf, iSrc, pRange1, pRange2, iEnum', srcEn, nat_add]
/-- a part of the text shows as much as the text, where the texts to find are short -/
theorem lcp_take {s : List Nat} {n : Nat} : ∀ {c : List Nat}, c.length ≤ n → lcp (s.take n) c = lcp s c := by
  induction s generalizing n with
  | nil => intro c _; simp
  | cons x s ih =>
    intro c hc
    cases n with
    | zero =>
      have := List.length_eq_zero_iff.mp (Nat.le_zero.mp hc)
      subst this
      rfl
    | succ n =>
      cases c with
      | nil => rfl
      | cons y c =>
        rw [List.take_succ_cons, lcp_step, lcp_step (s := x :: s)]
        dsimp only
        rw [ih (by simpa using hc)]
theorem stg_congr {s s' : List Nat} : ∀ {C : List (List Nat)} {k b : Nat}, (∀ c ∈ C, lcp s c = lcp s' c) → stgGo s C k b = stgGo s' C k b
  | [], _, _, _ => rfl
  | c :: C, k, b, h => by
    unfold stgGo
    rw [h c (by simp), stg_congr fun c hc => h c (by simp [hc])]
theorem stg_take {s : List Nat} {C : List (List Nat)} {n a k b : Nat} (h : ∀ c ∈ C, a + c.length ≤ n) : stgGo ((s.take n).drop a) C k b = stgGo (s.drop a) C k b := by
  refine stg_congr fun c hc => ?_
  rw [List.drop_take]
  exact lcp_take (by have := h c hc; omega)
theorem cand_len {lo hi sep : Nat} : ∀ c ∈ cand lo hi sep, c.length ≤ 4 := by
  intro c hc
  obtain ⟨x, _, _, rfl⟩ := mem_cand.mp hc
  have := sgN_len x
  simp
  omega
theorem stg_len {s : List Nat} {C : List (List Nat)} {k b i l n : Nat} (hC : ∀ c ∈ C, c.length ≤ n) (h : stgGo s C k b = (some i, l)) : l ≤ n := by
  obtain ⟨j, c, _, e, _, rfl⟩ := stg_some h
  exact hC c (List.mem_of_getElem? e)
theorem rdLine_take (low : Nat) (s : List Nat) : rdLine low (s.take 60) = rdLine low s := by
  have e1 := stg_take (s := s) (C := cand low 400 32) (n := 60) (a := 0) (k := 0) (b := 0) fun c hc => by have := cand_len c hc; omega
  rw [List.drop_zero, List.drop_zero] at e1
  unfold rdLine
  rw [e1]
  cases h1 : stgGo s (cand low 400 32) 0 0 with
  | mk o1 n1 =>
    cases o1 with
    | none => rfl
    | some i =>
      dsimp only
      have l1 := stg_len cand_len h1
      have le : ∀ c ∈ ended, c.length ≤ 8 := by decide
      rw [stg_take (s := s) (C := ended) (n := 60) (a := n1) fun c hc => by have := le c hc; omega]
      cases h2 : stgGo (s.drop n1) ended 0 0 with
      | mk o2 n2 =>
        cases o2 with
        | none => rfl
        | some k =>
          dsimp only
          have l2 := stg_len le h2
          rw [stg_take (s := s) (C := cand 0 39 10) (n := 60) (a := n1 + n2) fun c hc => by have := cand_len c hc; omega]
end T75
set_option Elab.async false
set_option linter.all false
set_option maxRecDepth 100000
set_option maxHeartbeats 4000000
namespace T75
open PySem PySem.Spec PyProof.Rows L2 Py
theorem cand_map {lo : Nat} (hlo : lo ≤ 400) (h : HH) (ρ : Rho) : ∀ d ∈ List.range' lo (401 - lo), d < 401 := by
  intro d hd
  rw [List.mem_range'_1] at hd
  omega
theorem rg_nat (lo n : Nat) : rgD (lo : Int) n = (List.range' lo n).map fun x => D.int (x : Nat) := by
  unfold rgD
  apply List.ext_getElem
  · simp
  · intro i h1 h2
    simp
/-- a line, as the law reads it -/
def outL (low : Nat) : LR → D
  | .ok e len => .tup [e.row, .int len]
  | .fail m => .tup [.non, .int m]
theorem ctail {lo hi sep : Nat} : (cand lo hi sep).length = hi + 1 - lo := by simp [cand]
theorem idx_ended {k : Nat} (hk : k < 8) : L2.atI (ended.map D.str) (k : Int) = some (.str (endK k)) := by
  rw [Py.atI_nat, List.getElem?_map]
  have : ended[k]? = some (endK k) := by
    unfold endK
    rw [List.getD_eq_getElem?_getD, List.getElem?_eq_getElem (show k < ended.length from hk)]
    rfl
  rw [this]
  rfl
theorem endK_len (k : Nat) (hk : k < 8) : 1 ≤ (endK k).length ∧ (endK k).length ≤ 8 := by
  have : ∀ k < 8, 1 ≤ (endK k).length ∧ (endK k).length ≤ 8 := by decide
  exact this k hk
theorem rline_ok {t : List Nat} (ht : t.length ≤ 16777216) {low : Nat} (hlow : low ≤ 400) (h : HH) : ∃ h', h <+: h' ∧ fn__law_read_line [.str t, .int low] h = .ok (outL low (rdLine low t)) h' := by
  unfold fn__law_read_line b__law_read_line
  -- the lists of the texts to find
  have endl : ended.length = 8 := rfl
  have r1 : InR (low : Int) := ⟨by omega, by omega⟩
  have r2 : InR (401 : Int) := ⟨by omega, by omega⟩
  have r3 : InR (40 : Int) := ⟨by omega, by omega⟩
  have n1 : ((401 : Int) - (low : Int)).toNat = 401 - low := by omega
  generalize hw : [some (D.str t), some (.int low), some (.ref h.length), none, none, none, none, none, none] = ρ0
  have ce1 : ∀ (h : HH) (ρ : Rho), ρ.length = 9 → compL (fun _ => True) (tgName 4) tYes' p__law_read_line_1 ρ h.length ((List.range' low (401 - low)).map fun x => D.int (x : Nat)) (h ++ [.lst []]) = some (h ++ [.lst ((List.range' low (401 - low)).map fun x => D.str (sgN x ++ [32]))]) := fun h ρ hρ =>
    compL_new _ _ _ (fun x hx h' => by
      rw [List.mem_range'_1] at hx
      have st := signs_tab x (by omega)
      have g1 := log2_small (x := x) (by omega)
      have l1 := sgN_len x
      refine ⟨ρ.set 4 (some (.int x)), rfl, ?_⟩
      have e4 : (ρ.set 4 (some (.int x)))[4]? = some (some (.int x)) := by rw [List.getElem?_set_self (by omega)]
      simp (disch := omega) only [mkFn, sSeq, sNil, sBrk, sCnt, bindS, sExpr, sRet, sRetN, sIf, sSet, sSetIdx, sAug, sAsg, tgName, tgTup, tgSeq, R.bind, R.of, eVar, eC, eBin, eUn, eChain, tBool, tTru, truth, tNot', tAnd', tOr', tYes', eAnd, eOr, eNot, eIf, aNil, aCons, eTup, eLst, eCallB, eCall, eSl, oNone, oSome, pSl, pAdd, pSub, pMul_ok, pDiv, pMod, pNeg, pIAdd, pCmp, pEq, pNe, eqD, pIsN, pNotN, isNon, pIn, pNotIn, inD, pIdx, pLen, lenD, pAbs, pMax2, pMin2, pInt, pStr, pTuple, pList, pIsi, isiD, eMeth, tyD, pAppend, pCount, pRfind, pSIndex, pJoin, seqOf, Option.map_some, Option.map_none, Option.bind_some, Option.bind_none, Option.bind_eq_bind, Option.pure_def, List.getElem?_cons_zero, List.getElem?_cons_succ, List.getElem?_nil, List.set_cons_zero, List.set_cons_succ, List.set_nil, List.map_cons, List.map_nil, List.cons_append, List.nil_append, List.length_cons, List.length_nil, List.length_map, reduceIte, Bool.not_true, Bool.not_false, Bool.false_eq_true, decide_true, decide_false, Bool.and_true, Bool.true_and, beq_self_eq_true, Nat.zero_add, Option.isSome_some, sizeLine_v, and_self, Nat.reduceAdd, Int.cast_ofNat_Int, Int.natCast_zero, Int.natCast_one, Int.reduceEq, Int.reduceLT, Int.reduceLE, Int.reduceNeg, Int.reduceAdd, Int.reduceMul, Int.reduceSub, Nat.reduceEqDiff, Nat.reduceLT, Nat.reduceLeDiff, sFor, iSeq, srcOf, iSrc, pRange1, pRange2, iEnum', srcEn, if_pos, if_neg, p__law_read_line_1, e4, st, g1]) (fun _ => trivial) (by rw [sizeLine_v]; simp; omega)
  have ce2 : ∀ (h : HH) (ρ : Rho), ρ.length = 9 → compL (fun _ => True) (tgName 8) tYes' p__law_read_line_2 ρ h.length ((List.range' 0 40).map fun x => D.int (x : Nat)) (h ++ [.lst []]) = some (h ++ [.lst ((List.range' 0 40).map fun x => D.str (sgN x ++ [10]))]) := fun h ρ hρ =>
    compL_new _ _ _ (fun x hx h' => by
      rw [List.mem_range'_1] at hx
      have st := signs_tab x (by omega)
      have g1 := log2_small (x := x) (by omega)
      have l1 := sgN_len x
      refine ⟨ρ.set 8 (some (.int x)), rfl, ?_⟩
      have e4 : (ρ.set 8 (some (.int x)))[8]? = some (some (.int x)) := by rw [List.getElem?_set_self (by omega)]
      simp (disch := omega) only [mkFn, sSeq, sNil, sBrk, sCnt, bindS, sExpr, sRet, sRetN, sIf, sSet, sSetIdx, sAug, sAsg, tgName, tgTup, tgSeq, R.bind, R.of, eVar, eC, eBin, eUn, eChain, tBool, tTru, truth, tNot', tAnd', tOr', tYes', eAnd, eOr, eNot, eIf, aNil, aCons, eTup, eLst, eCallB, eCall, eSl, oNone, oSome, pSl, pAdd, pSub, pMul_ok, pDiv, pMod, pNeg, pIAdd, pCmp, pEq, pNe, eqD, pIsN, pNotN, isNon, pIn, pNotIn, inD, pIdx, pLen, lenD, pAbs, pMax2, pMin2, pInt, pStr, pTuple, pList, pIsi, isiD, eMeth, tyD, pAppend, pCount, pRfind, pSIndex, pJoin, seqOf, Option.map_some, Option.map_none, Option.bind_some, Option.bind_none, Option.bind_eq_bind, Option.pure_def, List.getElem?_cons_zero, List.getElem?_cons_succ, List.getElem?_nil, List.set_cons_zero, List.set_cons_succ, List.set_nil, List.map_cons, List.map_nil, List.cons_append, List.nil_append, List.length_cons, List.length_nil, List.length_map, reduceIte, Bool.not_true, Bool.not_false, Bool.false_eq_true, decide_true, decide_false, Bool.and_true, Bool.true_and, beq_self_eq_true, Nat.zero_add, Option.isSome_some, sizeLine_v, and_self, Nat.reduceAdd, Int.cast_ofNat_Int, Int.natCast_zero, Int.natCast_one, Int.reduceEq, Int.reduceLT, Int.reduceLE, Int.reduceNeg, Int.reduceAdd, Int.reduceMul, Int.reduceSub, Nat.reduceEqDiff, Nat.reduceLT, Nat.reduceLeDiff, sFor, iSeq, srcOf, iSrc, pRange1, pRange2, iEnum', srcEn, if_pos, if_neg, p__law_read_line_2, e4, st, g1]) (fun _ => trivial) (by rw [sizeLine_v]; decide)
  have c1 : (List.range' low (401 - low)).map (fun x => D.str (sgN x ++ [32])) = (cand low 400 32).map D.str := by
    unfold cand
    rw [List.map_map]
    rfl
  have c2 : (List.range' 0 40).map (fun x => D.str (sgN x ++ [10])) = (cand 0 39 10).map D.str := by
    unfold cand
    rw [List.map_map]
    rfl
  have g40 : rgD 0 40 = (List.range' 0 40).map fun x => D.int (x : Nat) := rg_nat 0 40
  have S1 := fun (h : HH) w hw => stage_ok ht (C := cand low 400 32) (w := w) (h := h) hw (fun c hc => by have := cand_len c hc; omega) (by rw [ctail]; omega) 0
  have S2 := fun (h : HH) w hw a => stage_ok ht (C := ended) (w := w) (h := h) hw ended_len (by decide) a
  have S3 := fun (h : HH) w hw a => stage_ok ht (C := cand 0 39 10) (w := w) (h := h) hw (fun c hc => by have := cand_len c hc; omega) (by rw [ctail]; omega) a
  have i0 : itemsL (h ++ [.lst (ended.map D.str)]) h.length = some (ended.map D.str) := itemsL_lst get_app_new
  have i0' : ∀ t, itemsL (h ++ [.lst (ended.map D.str)] ++ t) h.length = some (ended.map D.str) := fun t => itemsL_lst (get_app_old get_app_new)
  have S1' := S1 (h ++ [.lst (ended.map D.str)] ++ [.lst ((cand low 400 32).map D.str)]) _ (itemsL_lst get_app_new)
  have S2' := S2 (h ++ [.lst (ended.map D.str)] ++ [.lst ((cand low 400 32).map D.str)]) _ (i0' _)
  have S3' := S3 (h ++ [.lst (ended.map D.str)] ++ [.lst ((cand low 400 32).map D.str)] ++ [.lst ((cand 0 39 10).map D.str)]) _ (itemsL_lst get_app_new)
  rw [List.drop_zero] at S1'
  simp only [Int.natCast_zero] at S1'
  unfold rdLine
  cases q1 : stgGo t (cand low 400 32) 0 0 with
  | mk o1 m1 =>
    rw [q1] at S1'
    cases o1 with
    | none =>
      refine ⟨_, ?_, by
        simp only [mkFn, sSeq, sNil, sBrk, sCnt, bindS, sExpr, sRet, sRetN, sIf, sSet, sSetIdx, sAug, sAsg, tgName, tgTup, tgSeq, R.bind, R.of, eVar, eC, eBin, eUn, eChain, tBool, tTru, truth, tNot', tAnd', tOr', tYes', eAnd, eOr, eNot, eIf, aNil, aCons, eTup, eLst, eCallB, eCall, eSl, oNone, oSome, pSl, pAdd, pSub, pMul_ok, pDiv, pMod, pNeg, pIAdd, pCmp, pEq, pNe, eqD, pIsN, pNotN, isNon, pIn, pNotIn, inD, pIdx, pLen, lenD, pAbs, pMax2, pMin2, pInt, pStr, pTuple, pList, pIsi, isiD, eMeth, tyD, pAppend, pCount, pRfind, pSIndex, pJoin, seqOf, Option.map_some, Option.map_none, Option.bind_some, Option.bind_none, Option.bind_eq_bind, Option.pure_def, List.getElem?_cons_zero, List.getElem?_cons_succ, List.getElem?_nil, List.set_cons_zero, List.set_cons_succ, List.set_nil, List.map_cons, List.map_nil, List.cons_append, List.nil_append, List.length_cons, List.length_nil, List.length_map, reduceIte, Bool.not_true, Bool.not_false, Bool.false_eq_true, decide_true, decide_false, Bool.and_true, Bool.true_and, beq_self_eq_true, Nat.zero_add, Option.isSome_some, sizeLine_v, and_self, Nat.reduceAdd, Int.cast_ofNat_Int, Int.natCast_zero, Int.natCast_one, Int.reduceEq, Int.reduceLT, Int.reduceLE, Int.reduceNeg, Int.reduceAdd, Int.reduceMul, Int.reduceSub, Nat.reduceEqDiff, Nat.reduceLT, Nat.reduceLeDiff, sFor, iSeq, srcOf, iSrc, pRange1, pRange2, iEnum', srcEn, ← ended_map, endl, eLc, wipeR, n1, r1, r2, rg_nat, ce1, c1, S1', at20, at21]
        rfl⟩
      rw [List.append_assoc]
      exact List.prefix_append _ _
    | some i =>
      have hi : low + i ≤ 400 := by
        obtain ⟨j, c, e1, e2, e3, e4⟩ := stg_some q1
        obtain ⟨b1, b2⟩ := cand_at e2
        omega
      have neg1 : ¬ ((i : Int) < 0) := by omega
      have S2'' := S2' m1
      dsimp only
      cases q2 : stgGo (t.drop m1) ended 0 0 with
      | mk o2 m2 =>
        rw [q2] at S2''
        cases o2 with
        | none =>
          refine ⟨_, ?_, by
            dsimp only at S1' S2'' ⊢
            simp only [mkFn, sSeq, sNil, sBrk, sCnt, bindS, sExpr, sRet, sRetN, sIf, sSet, sSetIdx, sAug, sAsg, tgName, tgTup, tgSeq, R.bind, R.of, eVar, eC, eBin, eUn, eChain, tBool, tTru, truth, tNot', tAnd', tOr', tYes', eAnd, eOr, eNot, eIf, aNil, aCons, eTup, eLst, eCallB, eCall, eSl, oNone, oSome, pSl, pAdd, pSub, pMul_ok, pDiv, pMod, pNeg, pIAdd, pCmp, pEq, pNe, eqD, pIsN, pNotN, isNon, pIn, pNotIn, inD, pIdx, pLen, lenD, pAbs, pMax2, pMin2, pInt, pStr, pTuple, pList, pIsi, isiD, eMeth, tyD, pAppend, pCount, pRfind, pSIndex, pJoin, seqOf, Option.map_some, Option.map_none, Option.bind_some, Option.bind_none, Option.bind_eq_bind, Option.pure_def, List.getElem?_cons_zero, List.getElem?_cons_succ, List.getElem?_nil, List.set_cons_zero, List.set_cons_succ, List.set_nil, List.map_cons, List.map_nil, List.cons_append, List.nil_append, List.length_cons, List.length_nil, List.length_map, reduceIte, Bool.not_true, Bool.not_false, Bool.false_eq_true, decide_true, decide_false, Bool.and_true, Bool.true_and, beq_self_eq_true, Nat.zero_add, Option.isSome_some, sizeLine_v, and_self, Nat.reduceAdd, Int.cast_ofNat_Int, Int.natCast_zero, Int.natCast_one, Int.reduceEq, Int.reduceLT, Int.reduceLE, Int.reduceNeg, Int.reduceAdd, Int.reduceMul, Int.reduceSub, Nat.reduceEqDiff, Nat.reduceLT, Nat.reduceLeDiff, sFor, iSeq, srcOf, iSrc, pRange1, pRange2, iEnum', srcEn, ← ended_map, endl, eLc, wipeR, n1, r1, r2, rg_nat, ce1, c1, S1', S2'', at20, at21, Nat.zero_add, neg1]
            rfl⟩
          rw [List.append_assoc]
          exact List.prefix_append _ _
        | some k =>
          have hk : k < 8 := by
            obtain ⟨j, c, e1, e2, e3, e4⟩ := stg_some q2
            obtain ⟨b1, b2⟩ := ended_at e2
            omega
          have neg2 : ¬ ((k : Int) < 0) := by omega
          have ie := idx_ended hk
          have el := endK_len k hk
          have el' : (endK k).length ≤ 16777216 := by omega
          have cl : cutL (endK k) none (some ((((endK k).length : Nat) : Int) - 1)) = wd k := by
            rw [show (((endK k).length : Nat) : Int) - 1 = (((endK k).length - 1 : Nat) : Int) by omega, cutL_take]
            unfold wd
            rw [List.dropLast_eq_take]
          have kk : ((5 : Int) < (k : Int)) = (5 < k) := propext ⟨fun z => by omega, fun z => by omega⟩
          by_cases h5 : 5 < k
          · refine ⟨_, ?_, by
              dsimp only at S1' S2'' ⊢
              rw [if_pos h5]
              simp only [mkFn, sSeq, sNil, sBrk, sCnt, bindS, sExpr, sRet, sRetN, sIf, sSet, sSetIdx, sAug, sAsg, tgName, tgTup, tgSeq, R.bind, R.of, eVar, eC, eBin, eUn, eChain, tBool, tTru, truth, tNot', tAnd', tOr', tYes', eAnd, eOr, eNot, eIf, aNil, aCons, eTup, eLst, eCallB, eCall, eSl, oNone, oSome, pSl, pAdd, pSub, pMul_ok, pDiv, pMod, pNeg, pIAdd, pCmp, pEq, pNe, eqD, pIsN, pNotN, isNon, pIn, pNotIn, inD, pIdx, pLen, lenD, pAbs, pMax2, pMin2, pInt, pStr, pTuple, pList, pIsi, isiD, eMeth, tyD, pAppend, pCount, pRfind, pSIndex, pJoin, seqOf, Option.map_some, Option.map_none, Option.bind_some, Option.bind_none, Option.bind_eq_bind, Option.pure_def, List.getElem?_cons_zero, List.getElem?_cons_succ, List.getElem?_nil, List.set_cons_zero, List.set_cons_succ, List.set_nil, List.map_cons, List.map_nil, List.cons_append, List.nil_append, List.length_cons, List.length_nil, List.length_map, reduceIte, Bool.not_true, Bool.not_false, Bool.false_eq_true, decide_true, decide_false, Bool.and_true, Bool.true_and, beq_self_eq_true, Nat.zero_add, Option.isSome_some, sizeLine_v, and_self, Nat.reduceAdd, Int.cast_ofNat_Int, Int.natCast_zero, Int.natCast_one, Int.reduceEq, Int.reduceLT, Int.reduceLE, Int.reduceNeg, Int.reduceAdd, Int.reduceMul, Int.reduceSub, Nat.reduceEqDiff, Nat.reduceLT, Nat.reduceLeDiff, sFor, iSeq, srcOf, iSrc, pRange1, pRange2, iEnum', srcEn, ← ended_map, endl, eLc, wipeR, n1, r1, r2, rg_nat, ce1, c1, S1', S2'', at20, at21, Nat.zero_add, neg1, neg2, i0', ie, el', kk, h5, cl, nat_add]
              rfl⟩
            rw [List.append_assoc]
            exact List.prefix_append _ _
          · have S3'' := S3' (m1 + m2)
            dsimp only
            rw [if_neg h5]
            cases q3 : stgGo (t.drop (m1 + m2)) (cand 0 39 10) 0 0 with
            | mk o3 m3 =>
              rw [q3] at S3''
              cases o3 with
              | none =>
                refine ⟨_, ?_, by
                  dsimp only at S1' S2'' S3'' ⊢
                  simp only [mkFn, sSeq, sNil, sBrk, sCnt, bindS, sExpr, sRet, sRetN, sIf, sSet, sSetIdx, sAug, sAsg, tgName, tgTup, tgSeq, R.bind, R.of, eVar, eC, eBin, eUn, eChain, tBool, tTru, truth, tNot', tAnd', tOr', tYes', eAnd, eOr, eNot, eIf, aNil, aCons, eTup, eLst, eCallB, eCall, eSl, oNone, oSome, pSl, pAdd, pSub, pMul_ok, pDiv, pMod, pNeg, pIAdd, pCmp, pEq, pNe, eqD, pIsN, pNotN, isNon, pIn, pNotIn, inD, pIdx, pLen, lenD, pAbs, pMax2, pMin2, pInt, pStr, pTuple, pList, pIsi, isiD, eMeth, tyD, pAppend, pCount, pRfind, pSIndex, pJoin, seqOf, Option.map_some, Option.map_none, Option.bind_some, Option.bind_none, Option.bind_eq_bind, Option.pure_def, List.getElem?_cons_zero, List.getElem?_cons_succ, List.getElem?_nil, List.set_cons_zero, List.set_cons_succ, List.set_nil, List.map_cons, List.map_nil, List.cons_append, List.nil_append, List.length_cons, List.length_nil, List.length_map, reduceIte, Bool.not_true, Bool.not_false, Bool.false_eq_true, decide_true, decide_false, Bool.and_true, Bool.true_and, beq_self_eq_true, Nat.zero_add, Option.isSome_some, sizeLine_v, and_self, Nat.reduceAdd, Int.cast_ofNat_Int, Int.natCast_zero, Int.natCast_one, Int.reduceEq, Int.reduceLT, Int.reduceLE, Int.reduceNeg, Int.reduceAdd, Int.reduceMul, Int.reduceSub, Nat.reduceEqDiff, Nat.reduceLT, Nat.reduceLeDiff, sFor, iSeq, srcOf, iSrc, pRange1, pRange2, iEnum', srcEn, ← ended_map, endl, eLc, wipeR, n1, r1, r2, r3, rg_nat, g40, ce1, ce2, c1, c2, S1', S2'', S3'', at20, at21, Nat.zero_add, neg1, neg2, i0', ie, el', kk, h5, cl, nat_add, Int.reduceToNat]
                  rfl⟩
                rw [List.append_assoc, List.append_assoc]
                exact List.prefix_append _ _
              | some n =>
                have neg3 : ¬ ((n : Int) < 0) := by omega
                refine ⟨_, ?_, by
                  dsimp only at S1' S2'' S3'' ⊢
                  simp only [mkFn, sSeq, sNil, sBrk, sCnt, bindS, sExpr, sRet, sRetN, sIf, sSet, sSetIdx, sAug, sAsg, tgName, tgTup, tgSeq, R.bind, R.of, eVar, eC, eBin, eUn, eChain, tBool, tTru, truth, tNot', tAnd', tOr', tYes', eAnd, eOr, eNot, eIf, aNil, aCons, eTup, eLst, eCallB, eCall, eSl, oNone, oSome, pSl, pAdd, pSub, pMul_ok, pDiv, pMod, pNeg, pIAdd, pCmp, pEq, pNe, eqD, pIsN, pNotN, isNon, pIn, pNotIn, inD, pIdx, pLen, lenD, pAbs, pMax2, pMin2, pInt, pStr, pTuple, pList, pIsi, isiD, eMeth, tyD, pAppend, pCount, pRfind, pSIndex, pJoin, seqOf, Option.map_some, Option.map_none, Option.bind_some, Option.bind_none, Option.bind_eq_bind, Option.pure_def, List.getElem?_cons_zero, List.getElem?_cons_succ, List.getElem?_nil, List.set_cons_zero, List.set_cons_succ, List.set_nil, List.map_cons, List.map_nil, List.cons_append, List.nil_append, List.length_cons, List.length_nil, List.length_map, reduceIte, Bool.not_true, Bool.not_false, Bool.false_eq_true, decide_true, decide_false, Bool.and_true, Bool.true_and, beq_self_eq_true, Nat.zero_add, Option.isSome_some, sizeLine_v, and_self, Nat.reduceAdd, Int.cast_ofNat_Int, Int.natCast_zero, Int.natCast_one, Int.reduceEq, Int.reduceLT, Int.reduceLE, Int.reduceNeg, Int.reduceAdd, Int.reduceMul, Int.reduceSub, Nat.reduceEqDiff, Nat.reduceLT, Nat.reduceLeDiff, sFor, iSeq, srcOf, iSrc, pRange1, pRange2, iEnum', srcEn, ← ended_map, endl, eLc, wipeR, n1, r1, r2, r3, rg_nat, g40, ce1, ce2, c1, c2, S1', S2'', S3'', at20, at21, Nat.zero_add, neg1, neg2, neg3, i0', ie, el', kk, h5, cl, nat_add, Int.reduceToNat]
                  rfl⟩
                rw [List.append_assoc, List.append_assoc]
                exact List.prefix_append _ _
end T75
set_option Elab.async false
set_option linter.all false
set_option maxRecDepth 100000
set_option maxHeartbeats 4000000
namespace T75
open PySem PySem.Spec PyProof.Rows L2 Py
/-! ### the program's reading of a text -/
theorem rdN_lo {lo hi : Nat} : ∀ {s : List Nat} {v j v' l : Nat}, rdN lo hi s v j = .hit v' l → lo ≤ v' := by
  have fin : ∀ {v j v' l : Nat}, nFin lo v j = .hit v' l → lo ≤ v' := by
    intro v j v' l h
    unfold nFin at h
    split at h
    · cases h
    · cases h; omega
  intro s
  induction s with
  | nil => intro v j v' l h; exact fin h
  | cons c s ih =>
    intro v j v' l h
    unfold rdN at h
    split at h
    · split at h
      · cases h
      · exact ih h
    · exact fin h
/-- a number and the sign behind it -/
theorem numchar {t : List Nat} (ht : t.length ≤ 16777216) {lo hi : Nat} (hl : lo ≤ hi) (hh : hi < 1000) {sep : Nat} (hsep : ¬ dig sep) (a : Nat) (L H : Int) (hL : L = lo) (hH : H = hi) :
    (∃ m, stgGo (t.drop a) (cand lo hi sep) 0 0 = (none, m) ∧ ((∀ h, fn__read_number [.str t, .int a, .int L, .int H] h = .ex "BadLine" (bl t (a + m)) h) ∨
      (∃ v : Nat, (∀ h, fn__read_number [.str t, .int a, .int L, .int H] h = .ok (.tup [.int v, .int ((a + m : Nat) : Int)]) h) ∧ ∀ h, fn__read_char [.str t, .int ((a + m : Nat) : Int), .str [sep]] h = .ex "BadLine" (bl t (a + m)) h))) ∨
    (∃ i l, stgGo (t.drop a) (cand lo hi sep) 0 0 = (some i, l + 1) ∧ (∀ h, fn__read_number [.str t, .int a, .int L, .int H] h = .ok (.tup [.int ((lo + i : Nat) : Int), .int ((a + l : Nat) : Int)]) h) ∧ ∀ h, fn__read_char [.str t, .int ((a + l : Nat) : Int), .str [sep]] h = .ok (.int ((a + (l + 1) : Nat) : Int)) h) := by
  subst hL hH
  have S := num_stage hl hh hsep (t.drop a)
  have N := fun h => rnum_ok ht hl hh a h
  unfold rdC at S
  cases q : rdN lo hi (t.drop a) 0 0 with
  | miss m =>
    rw [q] at S N
    exact .inl ⟨m, S, .inl N⟩
  | hit v l =>
    rw [q] at S N
    dsimp only at S N
    have C := fun h => rchar_ok ht (a + l) sep h
    have e : (t.drop a)[l]? = t[a + l]? := by rw [List.getElem?_drop]
    rw [e] at S
    by_cases z : t[a + l]? = some sep
    · rw [if_pos z] at S
      simp only [if_pos z] at C
      have := rdN_lo q
      refine .inr ⟨v - lo, l, S, ?_, C⟩
      rw [show lo + (v - lo) = v by omega]
      exact N
    · rw [if_neg z] at S
      simp only [if_neg z] at C
      exact .inl ⟨l, S, .inr ⟨v, N, C⟩⟩
theorem numbered : ∀ k < 8, ([.str [97, 115, 107], .str [97, 114, 114, 105, 118, 101], .str [100, 111], .str [97, 103, 97, 105, 110], .str [104, 101, 97, 114], .str [108, 97, 116, 101]] : List D).any (fun z => eqF z (.str (wd k))) = decide (k ≤ 5) := by decide
theorem in_num : ∀ k : Nat, k < 8 → ∀ h, pIn (.str (wd k)) (.tup [.str [97, 115, 107], .str [97, 114, 114, 105, 118, 101], .str [100, 111], .str [97, 103, 97, 105, 110], .str [104, 101, 97, 114], .str [108, 97, 116, 101]]) h = some (.bl (decide (k ≤ 5)), h)
  | 0, _, _ => rfl
  | 1, _, _ => rfl
  | 2, _, _ => rfl
  | 3, _, _ => rfl
  | 4, _, _ => rfl
  | 5, _, _ => rfl
  | 6, _, _ => rfl
  | 7, _, _ => rfl
  | n + 8, h, _ => by omega
theorem rd_body {t : List Nat} (ht : t.length ≤ 16777216) {low : Nat} (hlow : low ≤ 400) (a : Nat) (r : Nat) (x y : Option D) (acc : List Ev) (hacc : acc.length < 16777216) {h : HH} (hr : h[r]? = some (.lst (acc.map Ev.row))) :
    match rdLine low (t.drop a) with
    | .ok e len => p_read_log_2 [some (.str t), some (.ref r), some (.int low), some (.int a), x, y] h = .nx [some (.str t), some (.ref r), some (.int e.t), some (.int ((a + len : Nat) : Int)), some (.str (wd e.k)), some (.int e.num)] (h.set r (.lst ((acc ++ [e]).map Ev.row)))
    | .fail m => ∃ ρ', p_read_log_2 [some (.str t), some (.ref r), some (.int low), some (.int a), x, y] h = .ex "BadLine" (bl t (a + m)) ρ' h := by
  have ls := lstOf_lst hr
  have is := itemsL_lst hr
  have al : (acc.map Ev.row).length < 16777216 := by simpa using hacc
  unfold rdLine
  rcases numchar ht hlow (by omega) (sep := 32) (by decide) a (low : Int) 400 rfl rfl with ⟨m, e1, e2 | ⟨v, e2, e3⟩⟩ | ⟨i, l, e1, e2, e3⟩
  · rw [e1]
    dsimp only
    simp only [mkFn, sSeq, sNil, sBrk, sCnt, bindS, sExpr, sRet, sRetN, sIf, sSet, sSetIdx, sAug, sAsg, tgName, tgTup, tgSeq, Py.R.bind, Py.R.of, eVar, eC, eBin, eUn, eChain, tBool, tTru, truth, tNot', tAnd', tOr', tYes', eAnd, eOr, eNot, eIf, aNil, aCons, eTup, eLst, eCallB, eCall, eSl, oNone, oSome, pSl, pAdd, pSub, pMul_ok, pDiv, pMod, pNeg, pIAdd, pCmp, pEq, pNe, eqD, pIsN, pNotN, isNon, pIn, pNotIn, inD, pIdx, pLen, lenD, pAbs, pMax2, pMin2, pInt, pStr, pTuple, pList, pIsi, isiD, eMeth, tyD, pAppend, pCount, pRfind, pSIndex, pJoin, seqOf, Option.map_some, Option.map_none, Option.bind_some, Option.bind_none, Option.bind_eq_bind, Option.pure_def, List.getElem?_cons_zero, List.getElem?_cons_succ, List.getElem?_nil, List.set_cons_zero, List.set_cons_succ, List.set_nil, List.map_cons, List.map_nil, List.cons_append, List.nil_append, List.length_cons, List.length_nil, List.length_map, reduceIte, Bool.not_true, Bool.not_false, Bool.false_eq_true, decide_true, decide_false, Bool.and_true, Bool.true_and, beq_self_eq_true, Nat.zero_add, Option.isSome_some, sizeLine_v, and_self, Nat.reduceAdd, Int.cast_ofNat_Int, Int.natCast_zero, Int.natCast_one, Int.reduceEq, Int.reduceLT, Int.reduceLE, Int.reduceNeg, Int.reduceAdd, Int.reduceMul, Int.reduceSub, Nat.reduceEqDiff, Nat.reduceLT, Nat.reduceLeDiff, sFor, iSeq, srcOf, iSrc, pRange1, pRange2, iEnum', srcEn, p_read_log_2, e2]
    exact ⟨_, rfl⟩
  · rw [e1]
    dsimp only
    simp only [mkFn, sSeq, sNil, sBrk, sCnt, bindS, sExpr, sRet, sRetN, sIf, sSet, sSetIdx, sAug, sAsg, tgName, tgTup, tgSeq, Py.R.bind, Py.R.of, eVar, eC, eBin, eUn, eChain, tBool, tTru, truth, tNot', tAnd', tOr', tYes', eAnd, eOr, eNot, eIf, aNil, aCons, eTup, eLst, eCallB, eCall, eSl, oNone, oSome, pSl, pAdd, pSub, pMul_ok, pDiv, pMod, pNeg, pIAdd, pCmp, pEq, pNe, eqD, pIsN, pNotN, isNon, pIn, pNotIn, inD, pIdx, pLen, lenD, pAbs, pMax2, pMin2, pInt, pStr, pTuple, pList, pIsi, isiD, eMeth, tyD, pAppend, pCount, pRfind, pSIndex, pJoin, seqOf, Option.map_some, Option.map_none, Option.bind_some, Option.bind_none, Option.bind_eq_bind, Option.pure_def, List.getElem?_cons_zero, List.getElem?_cons_succ, List.getElem?_nil, List.set_cons_zero, List.set_cons_succ, List.set_nil, List.map_cons, List.map_nil, List.cons_append, List.nil_append, List.length_cons, List.length_nil, List.length_map, reduceIte, Bool.not_true, Bool.not_false, Bool.false_eq_true, decide_true, decide_false, Bool.and_true, Bool.true_and, beq_self_eq_true, Nat.zero_add, Option.isSome_some, sizeLine_v, and_self, Nat.reduceAdd, Int.cast_ofNat_Int, Int.natCast_zero, Int.natCast_one, Int.reduceEq, Int.reduceLT, Int.reduceLE, Int.reduceNeg, Int.reduceAdd, Int.reduceMul, Int.reduceSub, Nat.reduceEqDiff, Nat.reduceLT, Nat.reduceLeDiff, sFor, iSeq, srcOf, iSrc, pRange1, pRange2, iEnum', srcEn, p_read_log_2, e2, e3]
    exact ⟨_, rfl⟩
  · rw [e1]
    dsimp only
    have W := fun h => rword_ok ht (a + (l + 1)) h
    rw [← List.drop_drop] at W
    cases q2 : stgGo ((t.drop a).drop (l + 1)) ended 0 0 with
    | mk o2 n2 =>
      rw [q2] at W
      cases o2 with
      | none =>
        dsimp only at W ⊢
        simp only [mkFn, sSeq, sNil, sBrk, sCnt, bindS, sExpr, sRet, sRetN, sIf, sSet, sSetIdx, sAug, sAsg, tgName, tgTup, tgSeq, Py.R.bind, Py.R.of, eVar, eC, eBin, eUn, eChain, tBool, tTru, truth, tNot', tAnd', tOr', tYes', eAnd, eOr, eNot, eIf, aNil, aCons, eTup, eLst, eCallB, eCall, eSl, oNone, oSome, pSl, pAdd, pSub, pMul_ok, pDiv, pMod, pNeg, pIAdd, pCmp, pEq, pNe, eqD, pIsN, pNotN, isNon, pIn, pNotIn, inD, pIdx, pLen, lenD, pAbs, pMax2, pMin2, pInt, pStr, pTuple, pList, pIsi, isiD, eMeth, tyD, pAppend, pCount, pRfind, pSIndex, pJoin, seqOf, Option.map_some, Option.map_none, Option.bind_some, Option.bind_none, Option.bind_eq_bind, Option.pure_def, List.getElem?_cons_zero, List.getElem?_cons_succ, List.getElem?_nil, List.set_cons_zero, List.set_cons_succ, List.set_nil, List.map_cons, List.map_nil, List.cons_append, List.nil_append, List.length_cons, List.length_nil, List.length_map, reduceIte, Bool.not_true, Bool.not_false, Bool.false_eq_true, decide_true, decide_false, Bool.and_true, Bool.true_and, beq_self_eq_true, Nat.zero_add, Option.isSome_some, sizeLine_v, and_self, Nat.reduceAdd, Int.cast_ofNat_Int, Int.natCast_zero, Int.natCast_one, Int.reduceEq, Int.reduceLT, Int.reduceLE, Int.reduceNeg, Int.reduceAdd, Int.reduceMul, Int.reduceSub, Nat.reduceEqDiff, Nat.reduceLT, Nat.reduceLeDiff, sFor, iSeq, srcOf, iSrc, pRange1, pRange2, iEnum', srcEn, p_read_log_2, e2, e3, W, Nat.add_assoc]
        exact ⟨_, rfl⟩
      | some k =>
        dsimp only at W ⊢
        have hk : k < 8 := by
          obtain ⟨j, c, e1, e2, e3, e4⟩ := stg_some q2
          obtain ⟨b1, b2⟩ := ended_at e2
          omega
        have nb := numbered k hk
        have nb' := in_num k hk
        by_cases h5 : 5 < k
        · rw [if_pos h5]
          dsimp only
          rw [decide_eq_false (by omega)] at nb'
          simp only [mkFn, sSeq, sNil, sBrk, sCnt, bindS, sExpr, sRet, sRetN, sIf, sSet, sSetIdx, sAug, sAsg, tgName, tgTup, tgSeq, Py.R.bind, Py.R.of, eVar, eC, eBin, eUn, eChain, tBool, tTru, truth, tNot', tAnd', tOr', tYes', eAnd, eOr, eNot, eIf, aNil, aCons, eTup, eLst, eCallB, eCall, eSl, oNone, oSome, pSl, pAdd, pSub, pMul_ok, pDiv, pMod, pNeg, pIAdd, pCmp, pEq, pNe, eqD, pIsN, pNotN, isNon, pIdx, pLen, lenD, pAbs, pMax2, pMin2, pInt, pStr, pTuple, pList, pIsi, isiD, eMeth, tyD, pAppend, pCount, pRfind, pSIndex, pJoin, seqOf, Option.map_some, Option.map_none, Option.bind_some, Option.bind_none, Option.bind_eq_bind, Option.pure_def, List.getElem?_cons_zero, List.getElem?_cons_succ, List.getElem?_nil, List.set_cons_zero, List.set_cons_succ, List.set_nil, List.map_cons, List.map_nil, List.cons_append, List.nil_append, List.length_cons, List.length_nil, List.length_map, reduceIte, Bool.not_true, Bool.not_false, Bool.false_eq_true, decide_true, decide_false, Bool.and_true, Bool.true_and, beq_self_eq_true, Nat.zero_add, Option.isSome_some, sizeLine_v, and_self, Nat.reduceAdd, Int.cast_ofNat_Int, Int.natCast_zero, Int.natCast_one, Int.reduceEq, Int.reduceLT, Int.reduceLE, Int.reduceNeg, Int.reduceAdd, Int.reduceMul, Int.reduceSub, Nat.reduceEqDiff, Nat.reduceLT, Nat.reduceLeDiff, sFor, iSeq, srcOf, iSrc, pRange1, pRange2, iEnum', srcEn, p_read_log_2, e2, e3, W, ls, is, hacc, Nat.add_assoc, nb', Ev.num, List.map_append, Ev.row]
        · rw [if_neg h5]
          rw [decide_eq_true (by omega)] at nb'
          have dd : (t.drop a).drop (l + 1 + n2) = t.drop (a + (l + 1) + n2) := by rw [List.drop_drop]; congr 1; omega
          rw [dd]
          rcases numchar ht (Nat.zero_le 39) (by omega) (sep := 10) (by decide) (a + (l + 1) + n2) 0 39 rfl rfl with ⟨m, f1, f2 | ⟨v, f2, f3⟩⟩ | ⟨n, l3, f1, f2, f3⟩
          · rw [f1]
            dsimp only
            simp only [Nat.add_assoc] at f2 W ⊢
            simp only [mkFn, sSeq, sNil, sBrk, sCnt, bindS, sExpr, sRet, sRetN, sIf, sSet, sSetIdx, sAug, sAsg, tgName, tgTup, tgSeq, Py.R.bind, Py.R.of, eVar, eC, eBin, eUn, eChain, tBool, tTru, truth, tNot', tAnd', tOr', tYes', eAnd, eOr, eNot, eIf, aNil, aCons, eTup, eLst, eCallB, eCall, eSl, oNone, oSome, pSl, pAdd, pSub, pMul_ok, pDiv, pMod, pNeg, pIAdd, pCmp, pEq, pNe, eqD, pIsN, pNotN, isNon, pIdx, pLen, lenD, pAbs, pMax2, pMin2, pInt, pStr, pTuple, pList, pIsi, isiD, eMeth, tyD, pAppend, pCount, pRfind, pSIndex, pJoin, seqOf, Option.map_some, Option.map_none, Option.bind_some, Option.bind_none, Option.bind_eq_bind, Option.pure_def, List.getElem?_cons_zero, List.getElem?_cons_succ, List.getElem?_nil, List.set_cons_zero, List.set_cons_succ, List.set_nil, List.map_cons, List.map_nil, List.cons_append, List.nil_append, List.length_cons, List.length_nil, List.length_map, reduceIte, Bool.not_true, Bool.not_false, Bool.false_eq_true, decide_true, decide_false, Bool.and_true, Bool.true_and, beq_self_eq_true, Nat.zero_add, Option.isSome_some, sizeLine_v, and_self, Nat.reduceAdd, Int.cast_ofNat_Int, Int.natCast_zero, Int.natCast_one, Int.reduceEq, Int.reduceLT, Int.reduceLE, Int.reduceNeg, Int.reduceAdd, Int.reduceMul, Int.reduceSub, Nat.reduceEqDiff, Nat.reduceLT, Nat.reduceLeDiff, sFor, iSeq, srcOf, iSrc, pRange1, pRange2, iEnum', srcEn, p_read_log_2, e2, e3, W, f2, nb', Nat.add_assoc]
            exact ⟨_, rfl⟩
          · rw [f1]
            dsimp only
            simp only [Nat.add_assoc] at f2 f3 W ⊢
            simp only [mkFn, sSeq, sNil, sBrk, sCnt, bindS, sExpr, sRet, sRetN, sIf, sSet, sSetIdx, sAug, sAsg, tgName, tgTup, tgSeq, Py.R.bind, Py.R.of, eVar, eC, eBin, eUn, eChain, tBool, tTru, truth, tNot', tAnd', tOr', tYes', eAnd, eOr, eNot, eIf, aNil, aCons, eTup, eLst, eCallB, eCall, eSl, oNone, oSome, pSl, pAdd, pSub, pMul_ok, pDiv, pMod, pNeg, pIAdd, pCmp, pEq, pNe, eqD, pIsN, pNotN, isNon, pIdx, pLen, lenD, pAbs, pMax2, pMin2, pInt, pStr, pTuple, pList, pIsi, isiD, eMeth, tyD, pAppend, pCount, pRfind, pSIndex, pJoin, seqOf, Option.map_some, Option.map_none, Option.bind_some, Option.bind_none, Option.bind_eq_bind, Option.pure_def, List.getElem?_cons_zero, List.getElem?_cons_succ, List.getElem?_nil, List.set_cons_zero, List.set_cons_succ, List.set_nil, List.map_cons, List.map_nil, List.cons_append, List.nil_append, List.length_cons, List.length_nil, List.length_map, reduceIte, Bool.not_true, Bool.not_false, Bool.false_eq_true, decide_true, decide_false, Bool.and_true, Bool.true_and, beq_self_eq_true, Nat.zero_add, Option.isSome_some, sizeLine_v, and_self, Nat.reduceAdd, Int.cast_ofNat_Int, Int.natCast_zero, Int.natCast_one, Int.reduceEq, Int.reduceLT, Int.reduceLE, Int.reduceNeg, Int.reduceAdd, Int.reduceMul, Int.reduceSub, Nat.reduceEqDiff, Nat.reduceLT, Nat.reduceLeDiff, sFor, iSeq, srcOf, iSrc, pRange1, pRange2, iEnum', srcEn, p_read_log_2, e2, e3, W, f2, f3, nb', Nat.add_assoc]
            exact ⟨_, rfl⟩
          · rw [f1]
            dsimp only
            simp only [Nat.add_assoc] at f2 f3 W ⊢
            simp only [mkFn, sSeq, sNil, sBrk, sCnt, bindS, sExpr, sRet, sRetN, sIf, sSet, sSetIdx, sAug, sAsg, tgName, tgTup, tgSeq, Py.R.bind, Py.R.of, eVar, eC, eBin, eUn, eChain, tBool, tTru, truth, tNot', tAnd', tOr', tYes', eAnd, eOr, eNot, eIf, aNil, aCons, eTup, eLst, eCallB, eCall, eSl, oNone, oSome, pSl, pAdd, pSub, pMul_ok, pDiv, pMod, pNeg, pIAdd, pCmp, pEq, pNe, eqD, pIsN, pNotN, isNon, pIdx, pLen, lenD, pAbs, pMax2, pMin2, pInt, pStr, pTuple, pList, pIsi, isiD, eMeth, tyD, pAppend, pCount, pRfind, pSIndex, pJoin, seqOf, Option.map_some, Option.map_none, Option.bind_some, Option.bind_none, Option.bind_eq_bind, Option.pure_def, List.getElem?_cons_zero, List.getElem?_cons_succ, List.getElem?_nil, List.set_cons_zero, List.set_cons_succ, List.set_nil, List.map_cons, List.map_nil, List.cons_append, List.nil_append, List.length_cons, List.length_nil, List.length_map, reduceIte, Bool.not_true, Bool.not_false, Bool.false_eq_true, decide_true, decide_false, Bool.and_true, Bool.true_and, beq_self_eq_true, Nat.zero_add, Option.isSome_some, sizeLine_v, and_self, Nat.reduceAdd, Int.cast_ofNat_Int, Int.natCast_zero, Int.natCast_one, Int.reduceEq, Int.reduceLT, Int.reduceLE, Int.reduceNeg, Int.reduceAdd, Int.reduceMul, Int.reduceSub, Nat.reduceEqDiff, Nat.reduceLT, Nat.reduceLeDiff, sFor, iSeq, srcOf, iSrc, pRange1, pRange2, iEnum', srcEn, p_read_log_2, e2, e3, W, f2, f3, ls, is, hacc, nb', Nat.add_assoc, Ev.num, List.map_append, Ev.row]
theorem lns_snoc (a : List Ev) (e : Ev) : lns (a ++ [e]) = lns a ++ e.line := by
  rw [lns_append]
  unfold lns
  simp
/-- what a text is, by its reading -/
theorem reads_shape : ∀ {low : Nat} {s : List Nat} {rows : List Ev} {o : Option Nat}, Reads low s rows o → (∀ e ∈ rows, e.valid) ∧ ∃ s', s = lns rows ++ s' ∧ ∀ m, o = some m → m ≤ s'.length ∧ 10 ∉ s'.take m := by
  intro low s rows o h
  induction h with
  | done => exact ⟨by simp, [], rfl, fun m e => by cases e⟩
  | bad h1 h2 => exact ⟨by simp, _, rfl, fun m e => by cases e; exact rdLine_fail h2⟩
  | step h1 h2 h3 ih =>
    obtain ⟨v, _, ⟨r, hr⟩, hl⟩ := rdLine_ok h2
    obtain ⟨i1, s', i2, i3⟩ := ih
    refine ⟨fun e he => ?_, s', ?_, i3⟩
    · rcases List.mem_cons.mp he with rfl | he
      · exact v
      · exact i1 e he
    · rw [lns_cons, List.append_assoc, ← i2, hl, ← hr, List.drop_left]
theorem last_of {b c : List Nat} (h : 10 ∉ c) : lastAt 10 (b ++ [10] ++ c) = some b.length := by
  rcases lastAt_spec 10 (b ++ [10] ++ c) with ⟨_, h2⟩ | ⟨k, h1, h2, h3⟩
  · exact absurd (by simp) (h2 b.length)
  · rw [h1]
    by_cases hk : k < b.length
    · exact absurd (by simp) (h3 b.length hk)
    · by_cases hk2 : k = b.length
      · rw [hk2]
      · rw [List.getElem?_append_right (by simp; omega)] at h2
        exact absurd (List.mem_of_getElem? h2) h
theorem last_none {c : List Nat} (h : 10 ∉ c) : lastAt 10 c = none := by
  rcases lastAt_spec 10 c with ⟨h1, _⟩ | ⟨k, _, h2, _⟩
  · exact h1
  · exact absurd (List.mem_of_getElem? h2) h
theorem count_valid : ∀ {rows : List Ev}, (∀ e ∈ rows, e.valid) → (lns rows).count 10 = rows.length
  | [], _ => rfl
  | e :: es, h => by
    rw [lns_cons, List.count_append, line_count (h e (by simp)), count_valid fun e he => h e (by simp [he]), List.length_cons]
    omega
theorem bl_eq {rows : List Ev} {s' : List Nat} {m : Nat} (v : ∀ e ∈ rows, e.valid) (hm : m ≤ s'.length) (hn : 10 ∉ s'.take m) : bl (lns rows ++ s') ((lns rows).length + m) = ([("column", .int ((m : Int) + 1)), ("line", .int ((rows.length : Int) + 1))] : List (Str × D)) := by
  have e1 : (lns rows ++ s').take ((lns rows).length + m) = lns rows ++ s'.take m := by
    rw [List.take_append, List.take_of_length_le (by omega)]
    congr 2
    omega
  have e2 : (lns rows ++ s'.take m).count 10 = rows.length := by rw [List.count_append, count_valid v, List.count_eq_zero.mpr hn]; rfl
  unfold bl
  rw [e1, e2]
  congr 3
  cases hr : rows.reverse with
  | nil =>
    have : rows = [] := by simpa using hr
    subst this
    have : lastAt 10 (lns [] ++ s'.take m) = none := last_none hn
    rw [this]
    show ((0 + m : Nat) : Int) - -1 = m + 1
    omega
  | cons e es =>
    have hrr : rows = es.reverse ++ [e] := by
      have := congrArg List.reverse hr
      simpa using this
    obtain ⟨b, hb, _⟩ := line_nl (v e (by rw [hrr]; simp))
    have hl : lns rows = (lns es.reverse ++ b) ++ [10] := by rw [hrr, lns_snoc, hb, List.append_assoc]
    rw [hl, last_of hn]
    dsimp only
    rw [List.length_append, List.length_singleton]
    omega
theorem rl_test {t : List Nat} (ht : t.length ≤ 16777216) (a : Nat) (x y z w : Option D) (h : HH) : p_read_log_1 [some (.str t), x, y, some (.int a), z, w] h = .ok (decide (a < t.length)) h := by
  simp only [mkFn, sSeq, sNil, sBrk, sCnt, bindS, sExpr, sRet, sRetN, sIf, sSet, sSetIdx, sAug, sAsg, tgName, tgTup, tgSeq, Py.R.bind, Py.R.of, eVar, eC, eBin, eUn, eChain, tBool, tTru, truth, tNot', tAnd', tOr', tYes', eAnd, eOr, eNot, eIf, aNil, aCons, eTup, eLst, eCallB, eCall, eSl, oNone, oSome, pSl, pAdd, pSub, pMul_ok, pDiv, pMod, pNeg, pIAdd, pCmp, pEq, pNe, eqD, pIsN, pNotN, isNon, pIn, pNotIn, inD, pIdx, pLen, lenD, pAbs, pMax2, pMin2, pInt, pStr, pTuple, pList, pIsi, isiD, eMeth, tyD, pAppend, pCount, pRfind, pSIndex, pJoin, seqOf, Option.map_some, Option.map_none, Option.bind_some, Option.bind_none, Option.bind_eq_bind, Option.pure_def, List.getElem?_cons_zero, List.getElem?_cons_succ, List.getElem?_nil, List.set_cons_zero, List.set_cons_succ, List.set_nil, List.map_cons, List.map_nil, List.cons_append, List.nil_append, List.length_cons, List.length_nil, List.length_map, reduceIte, Bool.not_true, Bool.not_false, Bool.false_eq_true, decide_true, decide_false, Bool.and_true, Bool.true_and, beq_self_eq_true, Nat.zero_add, Option.isSome_some, sizeLine_v, and_self, Nat.reduceAdd, Int.cast_ofNat_Int, Int.natCast_zero, Int.natCast_one, Int.reduceEq, Int.reduceLT, Int.reduceLE, Int.reduceNeg, Int.reduceAdd, Int.reduceMul, Int.reduceSub, Nat.reduceEqDiff, Nat.reduceLT, Nat.reduceLeDiff, sFor, iSeq, srcOf, iSrc, pRange1, pRange2, iEnum', srcEn, p_read_log_1, ht, nat_lt]
theorem rl_loop {t : List Nat} (ht : t.length ≤ 16000000) (r : Nat) : ∀ {low : Nat} {s : List Nat} {rows : List Ev} {o : Option Nat}, Reads low s rows o → ∀ (acc : List Ev) (a : Nat) (x y : Option D) (h : HH), t = lns acc ++ s → a = (lns acc).length → (∀ e ∈ acc, e.valid) → low ≤ 400 → h[r]? = some (.lst (acc.map Ev.row)) →
    match o with
    | none => ∃ tk at' x' y', sWhile p_read_log_1 p_read_log_2 [some (.str t), some (.ref r), some (.int low), some (.int a), x, y] h = .nx [some (.str t), some (.ref r), tk, at', x', y'] (h.set r (.lst ((acc ++ rows).map Ev.row)))
    | some m => ∃ ρ' h', h'.length = h.length ∧ (∀ i, i ≠ r → h'[i]? = h[i]?) ∧ sWhile p_read_log_1 p_read_log_2 [some (.str t), some (.ref r), some (.int low), some (.int a), x, y] h = .ex "BadLine" [("column", .int ((m : Int) + 1)), ("line", .int (((acc ++ rows).length : Int) + 1))] ρ' h' := by
  intro low s rows o R
  induction R with
  | done low =>
    intro acc a x y h e1 e2 v hl hr
    have T := rl_test (by omega) a (some (.ref r)) (some (.int low)) x y h (t := t)
    rw [decide_eq_false (by rw [e1, e2]; simp)] at T
    refine ⟨some (.int low), some (.int a), x, y, (while_false T).trans ?_⟩
    rw [List.append_nil]
    have : h.set r (.lst (acc.map Ev.row)) = h := by
      obtain ⟨hl, e⟩ := List.getElem?_eq_some_iff.mp hr
      rw [← e, List.set_getElem_self]
    rw [this]
  | @bad low s m h1 h2 =>
    intro acc a x y h e1 e2 v hl hr
    have ha : a < t.length := by
      have : 0 < s.length := List.length_pos_iff.mpr h1
      rw [e1, e2, List.length_append]
      omega
    have T := rl_test (by omega) a (some (.ref r)) (some (.int low)) x y h (t := t)
    rw [decide_eq_true ha] at T
    have hacc : acc.length < 16777216 := by
      have := count_valid v
      have := List.count_le_length (a := 10) (l := lns acc)
      omega
    have hd : t.drop a = s := by rw [e1, e2, List.drop_left]
    have B := rd_body (by omega) hl a r x y acc hacc hr (t := t)
    rw [hd, h2] at B
    obtain ⟨ρ', B⟩ := B
    refine ⟨ρ', h, rfl, fun _ _ => rfl, (while_ex T B).trans ?_⟩
    obtain ⟨q1, q2⟩ := rdLine_fail h2
    rw [e1, e2, bl_eq v q1 q2, List.append_nil]
  | @step low s e len rows o h1 h2 h3 ih =>
    intro acc a x y h e1 e2 v hl hr
    have ha : a < t.length := by
      have : 0 < s.length := List.length_pos_iff.mpr h1
      rw [e1, e2, List.length_append]
      omega
    have T := rl_test (by omega) a (some (.ref r)) (some (.int low)) x y h (t := t)
    rw [decide_eq_true ha] at T
    have hacc : acc.length < 16777216 := by
      have := count_valid v
      have := List.count_le_length (a := 10) (l := lns acc)
      have : (lns acc).length ≤ t.length := by rw [e1]; simp
      omega
    have hd : t.drop a = s := by rw [e1, e2, List.drop_left]
    have B := rd_body (by omega) hl a r x y acc hacc hr (t := t)
    rw [hd, h2] at B
    obtain ⟨ve, _, ⟨q, hq⟩, hlen⟩ := rdLine_ok h2
    have := ih (acc ++ [e]) (a + len) (some (.str (wd e.k))) (some (.int e.num)) (h.set r (.lst ((acc ++ [e]).map Ev.row))) (by rw [lns_snoc, List.append_assoc, e1]; congr 1; rw [hlen, ← hq, List.drop_left]) (by rw [lns_snoc, List.length_append, e2, hlen]) (fun e' he => by
      rcases List.mem_append.mp he with h | h
      · exact v e' h
      · simp at h; exact h ▸ ve) ve.1 (get_set_same hr)
    have W := while_true T B
    cases o with
    | none =>
      obtain ⟨tk, at', x', y', E⟩ := this
      refine ⟨tk, at', x', y', (W.trans E).trans ?_⟩
      rw [List.set_set, List.append_assoc]
      rfl
    | some m =>
      obtain ⟨ρ', h', z1, z2, E⟩ := this
      refine ⟨ρ', h', by rw [z1, List.length_set], fun i hi => by rw [z2 i hi, List.getElem?_set, if_neg (Ne.symm hi)], (W.trans E).trans ?_⟩
      rw [List.append_assoc]
      rfl
def outT (rows : List Ev) : Option Nat → D
  | none => .tup [.tup (rows.map Ev.row), .int 0, .int 0]
  | some m => .tup [.non, .int ((rows.length : Int) + 1), .int ((m : Int) + 1)]
theorem read_ok {t : List Nat} (ht : t.length ≤ 16000000) {rows : List Ev} {o : Option Nat} (rds : Reads 0 t rows o) (h : HH) :
    (o = none → ∃ h', h <+: h' ∧ fn_read_log [.str t] h = .ok (.tup (rows.map Ev.row)) h') ∧ ∀ m, o = some m → ∃ h', h <+: h' ∧ fn_read_log [.str t] h = .ex "BadLine" [("column", .int ((m : Int) + 1)), ("line", .int ((rows.length : Int) + 1))] h' := by
  have L := rl_loop ht h.length rds [] 0 none none (h ++ [.lst []]) rfl rfl (by simp) (Nat.zero_le _) get_app_new
  rw [List.nil_append, Int.natCast_zero] at L
  unfold fn_read_log b_read_log
  refine ⟨fun e => ?_, fun m e => ?_⟩
  · subst e
    obtain ⟨tk, at', x', y', E⟩ := L
    have is : itemsL ((h ++ [Cell.lst []]).set h.length (.lst (rows.map Ev.row))) h.length = some (rows.map Ev.row) := itemsL_lst (get_set_same get_app_new)
    refine ⟨_, ?_, by
      simp only [mkFn, sSeq, sNil, sBrk, sCnt, bindS, sExpr, sRet, sRetN, sIf, sSet, sSetIdx, sAug, sAsg, tgName, tgTup, tgSeq, Py.R.bind, Py.R.of, eVar, eC, eBin, eUn, eChain, tBool, tTru, truth, tNot', tAnd', tOr', tYes', eAnd, eOr, eNot, eIf, aNil, aCons, eTup, eLst, eCallB, eCall, eSl, oNone, oSome, pSl, pAdd, pSub, pMul_ok, pDiv, pMod, pNeg, pIAdd, pCmp, pEq, pNe, eqD, pIsN, pNotN, isNon, pIn, pNotIn, inD, pIdx, pLen, lenD, pAbs, pMax2, pMin2, pInt, pStr, pTuple, pList, pIsi, isiD, eMeth, tyD, pAppend, pCount, pRfind, pSIndex, pJoin, seqOf, Option.map_some, Option.map_none, Option.bind_some, Option.bind_none, Option.bind_eq_bind, Option.pure_def, List.getElem?_cons_zero, List.getElem?_cons_succ, List.getElem?_nil, List.set_cons_zero, List.set_cons_succ, List.set_nil, List.map_cons, List.map_nil, List.cons_append, List.nil_append, List.length_cons, List.length_nil, List.length_map, reduceIte, Bool.not_true, Bool.not_false, Bool.false_eq_true, decide_true, decide_false, Bool.and_true, Bool.true_and, beq_self_eq_true, Nat.zero_add, Option.isSome_some, sizeLine_v, and_self, Nat.reduceAdd, Int.cast_ofNat_Int, Int.natCast_zero, Int.natCast_one, Int.reduceEq, Int.reduceLT, Int.reduceLE, Int.reduceNeg, Int.reduceAdd, Int.reduceMul, Int.reduceSub, Nat.reduceEqDiff, Nat.reduceLT, Nat.reduceLeDiff, sFor, iSeq, srcOf, iSrc, pRange1, pRange2, iEnum', srcEn, E, is]
      rfl⟩
    rw [List.set_append_right _ _ (Nat.le_refl _)]
    exact List.prefix_append _ _
  · subst e
    obtain ⟨ρ', h', z1, z2, E⟩ := L
    refine ⟨h', ?_, by simp only [mkFn, sSeq, sNil, sBrk, sCnt, bindS, sExpr, sRet, sRetN, sIf, sSet, sSetIdx, sAug, sAsg, tgName, tgTup, tgSeq, Py.R.bind, Py.R.of, eVar, eC, eBin, eUn, eChain, tBool, tTru, truth, tNot', tAnd', tOr', tYes', eAnd, eOr, eNot, eIf, aNil, aCons, eTup, eLst, eCallB, eCall, eSl, oNone, oSome, pSl, pAdd, pSub, pMul_ok, pDiv, pMod, pNeg, pIAdd, pCmp, pEq, pNe, eqD, pIsN, pNotN, isNon, pIn, pNotIn, inD, pIdx, pLen, lenD, pAbs, pMax2, pMin2, pInt, pStr, pTuple, pList, pIsi, isiD, eMeth, tyD, pAppend, pCount, pRfind, pSIndex, pJoin, seqOf, Option.map_some, Option.map_none, Option.bind_some, Option.bind_none, Option.bind_eq_bind, Option.pure_def, List.getElem?_cons_zero, List.getElem?_cons_succ, List.getElem?_nil, List.set_cons_zero, List.set_cons_succ, List.set_nil, List.map_cons, List.map_nil, List.cons_append, List.nil_append, List.length_cons, List.length_nil, List.length_map, reduceIte, Bool.not_true, Bool.not_false, Bool.false_eq_true, decide_true, decide_false, Bool.and_true, Bool.true_and, beq_self_eq_true, Nat.zero_add, Option.isSome_some, sizeLine_v, and_self, Nat.reduceAdd, Int.cast_ofNat_Int, Int.natCast_zero, Int.natCast_one, Int.reduceEq, Int.reduceLT, Int.reduceLE, Int.reduceNeg, Int.reduceAdd, Int.reduceMul, Int.reduceSub, Nat.reduceEqDiff, Nat.reduceLT, Nat.reduceLeDiff, sFor, iSeq, srcOf, iSrc, pRange1, pRange2, iEnum', srcEn, E]⟩
    rw [List.prefix_iff_eq_take]
    apply List.ext_getElem?
    intro i
    by_cases hi : i < h.length
    · rw [List.getElem?_take_of_lt hi, z2 i (by omega), List.getElem?_append_left hi]
    · rw [List.getElem?_eq_none (by omega), List.getElem?_eq_none (by simp; omega)]
theorem told_ok {t : List Nat} (ht : t.length ≤ 16000000) {rows : List Ev} {o : Option Nat} (rds : Reads 0 t rows o) (h : HH) : ∃ h', h <+: h' ∧ fn__law_told [.str t] h = .ok (outT rows o) h' := by
  obtain ⟨A, B⟩ := read_ok ht rds h
  have k1 : (("line" : Str) == ("column" : Str)) = false := by decide +kernel
  unfold fn__law_told b__law_told
  cases o with
  | none =>
    obtain ⟨h', p, e⟩ := A rfl
    refine ⟨h', p, ?_⟩
    simp only [mkFn, sSeq, sNil, sBrk, sCnt, bindS, sExpr, sRet, sRetN, sIf, sSet, sSetIdx, sAug, sAsg, tgName, tgTup, tgSeq, Py.R.bind, Py.R.of, eVar, eC, eBin, eUn, eChain, tBool, tTru, truth, tNot', tAnd', tOr', tYes', eAnd, eOr, eNot, eIf, aNil, aCons, eTup, eLst, eCallB, eCall, eSl, oNone, oSome, pSl, pAdd, pSub, pMul_ok, pDiv, pMod, pNeg, pIAdd, pCmp, pEq, pNe, eqD, pIsN, pNotN, isNon, pIn, pNotIn, inD, pIdx, pLen, lenD, pAbs, pMax2, pMin2, pInt, pStr, pTuple, pList, pIsi, isiD, eMeth, tyD, pAppend, pCount, pRfind, pSIndex, pJoin, seqOf, Option.map_some, Option.map_none, Option.bind_some, Option.bind_none, Option.bind_eq_bind, Option.pure_def, List.getElem?_cons_zero, List.getElem?_cons_succ, List.getElem?_nil, List.set_cons_zero, List.set_cons_succ, List.set_nil, List.map_cons, List.map_nil, List.cons_append, List.nil_append, List.length_cons, List.length_nil, List.length_map, reduceIte, Bool.not_true, Bool.not_false, Bool.false_eq_true, decide_true, decide_false, Bool.and_true, Bool.true_and, beq_self_eq_true, Nat.zero_add, Option.isSome_some, sizeLine_v, and_self, Nat.reduceAdd, Int.cast_ofNat_Int, Int.natCast_zero, Int.natCast_one, Int.reduceEq, Int.reduceLT, Int.reduceLE, Int.reduceNeg, Int.reduceAdd, Int.reduceMul, Int.reduceSub, Nat.reduceEqDiff, Nat.reduceLT, Nat.reduceLeDiff, sFor, iSeq, srcOf, iSrc, pRange1, pRange2, iEnum', srcEn, sTryRet, e]
    rfl
  | some m =>
    obtain ⟨h', p, e⟩ := B m rfl
    refine ⟨h', p, ?_⟩
    simp only [mkFn, sSeq, sNil, sBrk, sCnt, bindS, sExpr, sRet, sRetN, sIf, sSet, sSetIdx, sAug, sAsg, tgName, tgTup, tgSeq, Py.R.bind, Py.R.of, eVar, eC, eBin, eUn, eChain, tBool, tTru, truth, tNot', tAnd', tOr', tYes', eAnd, eOr, eNot, eIf, aNil, aCons, eTup, eLst, eCallB, eCall, eSl, oNone, oSome, pSl, pAdd, pSub, pMul_ok, pDiv, pMod, pNeg, pIAdd, pCmp, pEq, pNe, eqD, pIsN, pNotN, isNon, pIn, pNotIn, inD, pIdx, pLen, lenD, pAbs, pMax2, pMin2, pInt, pStr, pTuple, pList, pIsi, isiD, eMeth, tyD, pAppend, pCount, pRfind, pSIndex, pJoin, seqOf, Option.map_some, Option.map_none, Option.bind_some, Option.bind_none, Option.bind_eq_bind, Option.pure_def, List.getElem?_cons_zero, List.getElem?_cons_succ, List.getElem?_nil, List.set_cons_zero, List.set_cons_succ, List.set_nil, List.map_cons, List.map_nil, List.cons_append, List.nil_append, List.length_cons, List.length_nil, List.length_map, reduceIte, Bool.not_true, Bool.not_false, Bool.false_eq_true, decide_true, decide_false, Bool.and_true, Bool.true_and, beq_self_eq_true, Nat.zero_add, Option.isSome_some, sizeLine_v, and_self, Nat.reduceAdd, Int.cast_ofNat_Int, Int.natCast_zero, Int.natCast_one, Int.reduceEq, Int.reduceLT, Int.reduceLE, Int.reduceNeg, Int.reduceAdd, Int.reduceMul, Int.reduceSub, Nat.reduceEqDiff, Nat.reduceLT, Nat.reduceLeDiff, sFor, iSeq, srcOf, iSrc, pRange1, pRange2, iEnum', srcEn, sTryRet, e, xTup, xCons, xC, xF, xNil, List.lookup_cons, k1]
    rfl
end T75
set_option Elab.async false
set_option linter.all false
set_option maxRecDepth 100000
set_option maxHeartbeats 4000000
namespace T75
open PySem PySem.Spec PyProof.Rows L2 Py
theorem pre_get {h h' : HH} {n : Nat} {c : Cell} (p : h <+: h') (e : h[n]? = some c) : h'[n]? = some c := by
  obtain ⟨t, rfl⟩ := p
  exact get_app_old e
theorem pre_items {h h' : HH} {n : Nat} {xs : List D} (p : h <+: h') (e : itemsL h n = some xs) : itemsL h' n = some xs := by
  unfold itemsL at e ⊢
  cases q : h[n]? with
  | none => rw [q] at e; cases e
  | some c =>
    rw [q] at e
    rw [pre_get p q]
    exact e
theorem reads_fail {low : Nat} {s : List Nat} {rows : List Ev} {o : Option Nat} {m : Nat} (rds : Reads low s rows o) (hs : s ≠ []) (e : rdLine low s = .fail m) : rows = [] ∧ o = some m := by
  cases rds with
  | done => exact absurd rfl hs
  | bad _ h2 => rw [e] at h2; cases h2; exact ⟨rfl, rfl⟩
  | step _ h2 _ => rw [e] at h2; cases h2
theorem reads_go {low : Nat} {s : List Nat} {rows : List Ev} {o : Option Nat} {ev : Ev} {len : Nat} (rds : Reads low s rows o) (hs : s ≠ []) (e : rdLine low s = .ok ev len) : ∃ rows', rows = ev :: rows' ∧ Reads ev.t (s.drop len) rows' o := by
  cases rds with
  | done => exact absurd rfl hs
  | bad _ h2 => rw [e] at h2; cases h2
  | step _ h2 h3 => rw [e] at h2; cases h2; exact ⟨_, rfl, h3⟩
/-- where the change stands -/
def Cut (E : List Ev) (p k : Nat) : Prop := k ≤ E.length ∧ (lns (E.take k)).length ≤ p ∧ ∀ e, E[k]? = some e → p < (lns (E.take k)).length + e.line.length
theorem due_cut {E : List Ev} (hE : Asc 0 E) (hl : E.length ≤ 1000) {t : List Nat} {p e l : Nat} {h : HH} (h2 : itemsL h l = some (E.map fun e => D.str e.line)) (w0 w1 w2 w3 w4 : Option D) :
    ∃ k x, Cut E p k ∧ forL (fun _ => True) (tgName 6) p__law_due_1 (rgD 0 E.length) [some (.ref e), some (.ref l), some (.str t), some (.int p), some (.int 0), some (.int 0), none, w0, w1, w2, w3] h = .nx [some (.ref e), some (.ref l), some (.str t), some (.int p), some (.int k), some (.int ((lns (E.take k)).length : Nat)), x, w0, w1, w2, w3] h := by
  generalize ho : forL _ _ _ _ _ _ = o
  refine forL_run ho (fun i ρ h' => i ≤ E.length ∧ (lns (E.take i)).length ≤ p ∧ ∃ x, ρ = [some (.ref e), some (.ref l), some (.str t), some (.int p), some (.int i), some (.int ((lns (E.take i)).length : Nat)), x, w0, w1, w2, w3] ∧ h' = h)
    (fun o => ∃ k x, Cut E p k ∧ o = .nx [some (.ref e), some (.ref l), some (.str t), some (.int p), some (.int k), some (.int ((lns (E.take k)).length : Nat)), x, w0, w1, w2, w3] h) ?_ ?_ ⟨Nat.zero_le _, Nat.zero_le _, none, rfl, rfl⟩
  · rintro i d ρ h' hi ⟨hil, hs, x, rfl, rfl⟩
    obtain ⟨hin, rfl⟩ := rgD_get hi
    have hk := List.getElem?_eq_getElem hin
    have v := asc_valid hE (List.getElem_mem hin)
    have ll := line_len v
    have ll' : (E[i]).line.length ≤ 16777216 := by omega
    have hat : L2.atI (E.map fun e => D.str e.line) (i : Int) = some (.str (E[i]).line) := by rw [Py.atI_nat, List.getElem?_map, hk]; rfl
    have st : (lns (E.take (i + 1))).length = (lns (E.take i)).length + (E[i]).line.length := by rw [take_snoc hk, lns_snoc, List.length_append]
    refine ⟨trivial, [some (.ref e), some (.ref l), some (.str t), some (.int p), some (.int i), some (.int ((lns (E.take i)).length : Nat)), some (.int i), w0, w1, w2, w3], by simp only [mkFn, sSeq, sNil, sBrk, sCnt, bindS, sExpr, sRet, sRetN, sIf, sSet, sSetIdx, sAug, sAsg, tgName, tgTup, tgSeq, Py.R.bind, Py.R.of, eVar, eC, eBin, eUn, eChain, tBool, tTru, truth, tNot', tAnd', tOr', tYes', eAnd, eOr, eNot, eIf, aNil, aCons, eTup, eLst, eCallB, eCall, eSl, oNone, oSome, pSl, pAdd, pSub, pMul_ok, pDiv, pMod, pNeg, pIAdd, pCmp, pEq, pNe, eqD, pIsN, pNotN, isNon, pIn, pNotIn, inD, pIdx, pLen, lenD, pAbs, pMax2, pMin2, pInt, pStr, pTuple, pList, pIsi, isiD, eMeth, tyD, pAppend, pCount, pRfind, pSIndex, pJoin, seqOf, Option.map_some, Option.map_none, Option.bind_some, Option.bind_none, Option.bind_eq_bind, Option.pure_def, List.getElem?_cons_zero, List.getElem?_cons_succ, List.getElem?_nil, List.set_cons_zero, List.set_cons_succ, List.set_nil, List.map_cons, List.map_nil, List.cons_append, List.nil_append, List.length_cons, List.length_nil, List.length_map, reduceIte, Bool.not_true, Bool.not_false, Bool.false_eq_true, decide_true, decide_false, Bool.and_true, Bool.true_and, beq_self_eq_true, Nat.zero_add, Option.isSome_some, sizeLine_v, and_self, Nat.reduceAdd, Int.cast_ofNat_Int, Int.natCast_zero, Int.natCast_one, Int.reduceEq, Int.reduceLT, Int.reduceLE, Int.reduceNeg, Int.reduceAdd, Int.reduceMul, Int.reduceSub, Nat.reduceEqDiff, Nat.reduceLT, Nat.reduceLeDiff, sFor, iSeq, srcOf, iSrc, pRange1, pRange2, iEnum', srcEn, Int.zero_add], ?_⟩
    by_cases q : (lns (E.take i)).length + (E[i]).line.length ≤ p
    · simp only [mkFn, sSeq, sNil, sBrk, sCnt, bindS, sExpr, sRet, sRetN, sIf, sSet, sSetIdx, sAug, sAsg, tgName, tgTup, tgSeq, Py.R.bind, Py.R.of, eVar, eC, eBin, eUn, eChain, tBool, tTru, truth, tNot', tAnd', tOr', tYes', eAnd, eOr, eNot, eIf, aNil, aCons, eTup, eLst, eCallB, eCall, eSl, oNone, oSome, pSl, pAdd, pSub, pMul_ok, pDiv, pMod, pNeg, pIAdd, pCmp, pEq, pNe, eqD, pIsN, pNotN, isNon, pIn, pNotIn, inD, pIdx, pLen, lenD, pAbs, pMax2, pMin2, pInt, pStr, pTuple, pList, pIsi, isiD, eMeth, tyD, pAppend, pCount, pRfind, pSIndex, pJoin, seqOf, Option.map_some, Option.map_none, Option.bind_some, Option.bind_none, Option.bind_eq_bind, Option.pure_def, List.getElem?_cons_zero, List.getElem?_cons_succ, List.getElem?_nil, List.set_cons_zero, List.set_cons_succ, List.set_nil, List.map_cons, List.map_nil, List.cons_append, List.nil_append, List.length_cons, List.length_nil, List.length_map, reduceIte, Bool.not_true, Bool.not_false, Bool.false_eq_true, decide_true, decide_false, Bool.and_true, Bool.true_and, beq_self_eq_true, Nat.zero_add, Option.isSome_some, sizeLine_v, and_self, Nat.reduceAdd, Int.cast_ofNat_Int, Int.natCast_zero, Int.natCast_one, Int.reduceEq, Int.reduceLT, Int.reduceLE, Int.reduceNeg, Int.reduceAdd, Int.reduceMul, Int.reduceSub, Nat.reduceEqDiff, Nat.reduceLT, Nat.reduceLeDiff, sFor, iSeq, srcOf, iSrc, pRange1, pRange2, iEnum', srcEn, p__law_due_1, h2, hat, ll', nat_add, nat_le, q, nat_add1]
      exact ⟨by omega, by omega, _, by rw [st], rfl⟩
    · simp only [mkFn, sSeq, sNil, sBrk, sCnt, bindS, sExpr, sRet, sRetN, sIf, sSet, sSetIdx, sAug, sAsg, tgName, tgTup, tgSeq, Py.R.bind, Py.R.of, eVar, eC, eBin, eUn, eChain, tBool, tTru, truth, tNot', tAnd', tOr', tYes', eAnd, eOr, eNot, eIf, aNil, aCons, eTup, eLst, eCallB, eCall, eSl, oNone, oSome, pSl, pAdd, pSub, pMul_ok, pDiv, pMod, pNeg, pIAdd, pCmp, pEq, pNe, eqD, pIsN, pNotN, isNon, pIn, pNotIn, inD, pIdx, pLen, lenD, pAbs, pMax2, pMin2, pInt, pStr, pTuple, pList, pIsi, isiD, eMeth, tyD, pAppend, pCount, pRfind, pSIndex, pJoin, seqOf, Option.map_some, Option.map_none, Option.bind_some, Option.bind_none, Option.bind_eq_bind, Option.pure_def, List.getElem?_cons_zero, List.getElem?_cons_succ, List.getElem?_nil, List.set_cons_zero, List.set_cons_succ, List.set_nil, List.map_cons, List.map_nil, List.cons_append, List.nil_append, List.length_cons, List.length_nil, List.length_map, reduceIte, Bool.not_true, Bool.not_false, Bool.false_eq_true, decide_true, decide_false, Bool.and_true, Bool.true_and, beq_self_eq_true, Nat.zero_add, Option.isSome_some, sizeLine_v, and_self, Nat.reduceAdd, Int.cast_ofNat_Int, Int.natCast_zero, Int.natCast_one, Int.reduceEq, Int.reduceLT, Int.reduceLE, Int.reduceNeg, Int.reduceAdd, Int.reduceMul, Int.reduceSub, Nat.reduceEqDiff, Nat.reduceLT, Nat.reduceLeDiff, sFor, iSeq, srcOf, iSrc, pRange1, pRange2, iEnum', srcEn, p__law_due_1, h2, hat, ll', nat_add, nat_le, q, nat_add1]
      exact ⟨i, _, ⟨hil, hs, fun e' he => by rw [hk] at he; cases he; omega⟩, rfl⟩
  · rintro ρ h' ⟨hil, hs, x, rfl, rfl⟩
    rw [rgD_len] at hil hs ⊢
    exact ⟨trivial, E.length, x, ⟨hil, hs, fun e' he => by rw [List.getElem?_eq_none (Nat.le_refl _)] at he; cases he⟩, rfl⟩
theorem lastT_le {E : List Ev} {low : Nat} (a : Asc low E) (h : low ≤ 400) : lastT low E ≤ 400 := by
  unfold lastT
  cases q : E.getLast? with
  | none => exact h
  | some e =>
    have := asc_valid a (List.mem_of_getLast? q)
    exact this.1
theorem due_turn {t : List Nat} (ht : t.length ≤ 10000) {p f st low : Nat} (hlow : low ≤ 400) {F : List Ev} (hF : F.length ≤ 12000) {h : HH} (hf : h[f]? = some (.lst (F.map Ev.row))) (a b c k x y z : Option D) :
    (¬ st < t.length → p__law_due_2 [a, b, some (.str t), c, k, some (.int st), x, some (.ref f), some (.int low), y, z] h = .nx [a, b, some (.str t), c, k, some (.int st), x, some (.ref f), some (.int low), y, z] h) ∧
    (st < t.length → (∀ m, rdLine low (t.drop st) = .fail m → ∃ h', h <+: h' ∧ p__law_due_2 [a, b, some (.str t), c, k, some (.int st), x, some (.ref f), some (.int low), y, z] h = .rt (outT F (some m)) h') ∧
      ∀ e len, rdLine low (t.drop st) = .ok e len → ∃ h' f' y', h <+: h' ∧ h'[f']? = some (.lst ((F ++ [e]).map Ev.row)) ∧ p__law_due_2 [a, b, some (.str t), c, k, some (.int st), x, some (.ref f), some (.int low), y, z] h = .nx [a, b, some (.str t), c, k, some (.int ((st + len : Nat) : Int)), x, some (.ref f'), some (.int e.t), y', z] h') := by
  have t1 : t.length ≤ 16777216 := by omega
  have s60 : st + 60 - st = 60 := by omega
  have n60 : ((st : Nat) : Int) + 60 = ((st + 60 : Nat) : Int) := by omega
  refine ⟨fun q => ?_, fun q => ?_⟩
  · simp only [mkFn, sSeq, sNil, sBrk, sCnt, bindS, sExpr, sRet, sRetN, sIf, sSet, sSetIdx, sAug, sAsg, tgName, tgTup, tgSeq, Py.R.bind, Py.R.of, eVar, eC, eBin, eUn, eChain, tBool, tTru, truth, tNot', tAnd', tOr', tYes', eAnd, eOr, eNot, eIf, aNil, aCons, eTup, eLst, eCallB, eCall, eSl, oNone, oSome, pSl, pAdd, pSub, pMul_ok, pDiv, pMod, pNeg, pIAdd, pCmp, pEq, pNe, eqD, pIsN, pNotN, isNon, pIn, pNotIn, inD, pIdx, pLen, lenD, pAbs, pMax2, pMin2, pInt, pStr, pTuple, pList, pIsi, isiD, eMeth, tyD, pAppend, pCount, pRfind, pSIndex, pJoin, seqOf, Option.map_some, Option.map_none, Option.bind_some, Option.bind_none, Option.bind_eq_bind, Option.pure_def, List.getElem?_cons_zero, List.getElem?_cons_succ, List.getElem?_nil, List.set_cons_zero, List.set_cons_succ, List.set_nil, List.map_cons, List.map_nil, List.cons_append, List.nil_append, List.length_cons, List.length_nil, List.length_map, reduceIte, Bool.not_true, Bool.not_false, Bool.false_eq_true, decide_true, decide_false, Bool.and_true, Bool.true_and, beq_self_eq_true, Nat.zero_add, Option.isSome_some, sizeLine_v, and_self, Nat.reduceAdd, Int.cast_ofNat_Int, Int.natCast_zero, Int.natCast_one, Int.reduceEq, Int.reduceLT, Int.reduceLE, Int.reduceNeg, Int.reduceAdd, Int.reduceMul, Int.reduceSub, Nat.reduceEqDiff, Nat.reduceLT, Nat.reduceLeDiff, sFor, iSeq, srcOf, iSrc, pRange1, pRange2, iEnum', srcEn, p__law_due_2, t1, nat_lt, q]
  · obtain ⟨h1, p1, e1⟩ := rline_ok (t := (t.drop st).take 60) (by rw [List.length_take, List.length_drop]; omega) hlow h
    rw [rdLine_take] at e1
    have is := pre_items p1 (itemsL_lst hf)
    refine ⟨fun m hm => ?_, fun e len he => ?_⟩
    · rw [hm] at e1
      unfold outL at e1
      refine ⟨h1, p1, ?_⟩
      simp only [mkFn, sSeq, sNil, sBrk, sCnt, bindS, sExpr, sRet, sRetN, sIf, sSet, sSetIdx, sAug, sAsg, tgName, tgTup, tgSeq, Py.R.bind, Py.R.of, eVar, eC, eBin, eUn, eChain, tBool, tTru, truth, tNot', tAnd', tOr', tYes', eAnd, eOr, eNot, eIf, aNil, aCons, eTup, eLst, eCallB, eCall, eSl, oNone, oSome, pSl, pAdd, pSub, pMul_ok, pDiv, pMod, pNeg, pIAdd, pCmp, pEq, pNe, eqD, pIsN, pNotN, isNon, pIn, pNotIn, inD, pIdx, pLen, lenD, pAbs, pMax2, pMin2, pInt, pStr, pTuple, pList, pIsi, isiD, eMeth, tyD, pAppend, pCount, pRfind, pSIndex, pJoin, seqOf, Option.map_some, Option.map_none, Option.bind_some, Option.bind_none, Option.bind_eq_bind, Option.pure_def, List.getElem?_cons_zero, List.getElem?_cons_succ, List.getElem?_nil, List.set_cons_zero, List.set_cons_succ, List.set_nil, List.map_cons, List.map_nil, List.cons_append, List.nil_append, List.length_cons, List.length_nil, List.length_map, reduceIte, Bool.not_true, Bool.not_false, Bool.false_eq_true, decide_true, decide_false, Bool.and_true, Bool.true_and, beq_self_eq_true, Nat.zero_add, Option.isSome_some, sizeLine_v, and_self, Nat.reduceAdd, Int.cast_ofNat_Int, Int.natCast_zero, Int.natCast_one, Int.reduceEq, Int.reduceLT, Int.reduceLE, Int.reduceNeg, Int.reduceAdd, Int.reduceMul, Int.reduceSub, Nat.reduceEqDiff, Nat.reduceLT, Nat.reduceLeDiff, sFor, iSeq, srcOf, iSrc, pRange1, pRange2, iEnum', srcEn, p__law_due_2, t1, nat_lt, q, n60, cutL_mid, s60, e1, at20, at21, is]
      rfl
    · rw [he] at e1
      unfold outL Ev.row at e1
      have g1 := pre_get p1 hf
      have ls := lstOf_lst (get_app_old (t := [Cell.lst [D.tup [.int e.t, .str (wd e.k), .int e.num]]]) g1)
      have ln : lstOf (h1 ++ [Cell.lst [D.tup [.int e.t, .str (wd e.k), .int e.num]]]) h1.length = some [D.tup [.int e.t, .str (wd e.k), .int e.num]] := lstOf_lst get_app_new
      have fl : F.length + 1 ≤ 16777216 := by omega
      refine ⟨_, _, _, ?_, ?_, by
        simp only [mkFn, sSeq, sNil, sBrk, sCnt, bindS, sExpr, sRet, sRetN, sIf, sSet, sSetIdx, sAug, sAsg, tgName, tgTup, tgSeq, Py.R.bind, Py.R.of, eVar, eC, eBin, eUn, eChain, tBool, tTru, truth, tNot', tAnd', tOr', tYes', eAnd, eOr, eNot, eIf, aNil, aCons, eTup, eLst, eCallB, eCall, eSl, oNone, oSome, pSl, pAdd, pSub, pMul_ok, pDiv, pMod, pNeg, pIAdd, pCmp, pEq, pNe, eqD, pIsN, pNotN, isNon, pIn, pNotIn, inD, pIdx, pLen, lenD, pAbs, pMax2, pMin2, pInt, pStr, pTuple, pList, pIsi, isiD, eMeth, tyD, pAppend, pCount, pRfind, pSIndex, pJoin, seqOf, Option.map_some, Option.map_none, Option.bind_some, Option.bind_none, Option.bind_eq_bind, Option.pure_def, List.getElem?_cons_zero, List.getElem?_cons_succ, List.getElem?_nil, List.set_cons_zero, List.set_cons_succ, List.set_nil, List.map_cons, List.map_nil, List.cons_append, List.nil_append, List.length_cons, List.length_nil, List.length_map, reduceIte, Bool.not_true, Bool.not_false, Bool.false_eq_true, decide_true, decide_false, Bool.and_true, Bool.true_and, beq_self_eq_true, Nat.zero_add, Option.isSome_some, sizeLine_v, and_self, Nat.reduceAdd, Int.cast_ofNat_Int, Int.natCast_zero, Int.natCast_one, Int.reduceEq, Int.reduceLT, Int.reduceLE, Int.reduceNeg, Int.reduceAdd, Int.reduceMul, Int.reduceSub, Nat.reduceEqDiff, Nat.reduceLT, Nat.reduceLeDiff, sFor, iSeq, srcOf, iSrc, pRange1, pRange2, iEnum', srcEn, p__law_due_2, t1, nat_lt, q, n60, cutL_mid, s60, e1, at20, at21, at30, ls, ln, fl, nat_add]
        rfl⟩
      · rw [List.append_assoc]
        exact p1.trans (List.prefix_append _ _)
      · rw [get_app_new, List.map_append]
        rfl
end T75
set_option Elab.async false
set_option linter.all false
set_option maxRecDepth 100000
set_option maxHeartbeats 4000000
namespace T75
open PySem PySem.Spec PyProof.Rows L2 Py
theorem due_ok {E : List Ev} (hE : Asc 0 E) (hl : E.length ≤ 300) {t : List Nat} (ht : t.length ≤ 10000) {p e l : Nat} {h : HH} (h1 : itemsL h e = some (E.map Ev.row)) (h2 : itemsL h l = some (E.map fun e => D.str e.line))
    (hc : ∀ k, Cut E p k → ∃ s, t = lns (E.take k) ++ s ∧ Ali E 2 s) {rows : List Ev} {o : Option Nat} (rds : Reads 0 t rows o) :
    ∃ h', h <+: h' ∧ fn__law_due [.ref e, .ref l, .str t, .int p] h = .ok (outT rows o) h' := by
  unfold fn__law_due b__law_due
  have rE : InR (E.length : Int) := ⟨by omega, by omega⟩
  have r4 : InR (4 : Int) := ⟨by omega, by omega⟩
  obtain ⟨k, x, ⟨ck1, ck2, ck3⟩, F1⟩ := due_cut hE (by omega) (t := t) (p := p) (e := e) (l := l) (h := h) h2 none none none none none
  obtain ⟨s, hs, hal⟩ := hc k ⟨ck1, ck2, ck3⟩
  have hEk := asc_take (i := k) hE
  rw [hs] at rds
  obtain ⟨rows2, er, rd2⟩ := reads_pre hEk rds
  rw [← hs] at rds
  have low4 := lastT_le hEk (Nat.zero_le 400)
  have vk := (reads_shape rds).1
  have hlen : rows.length ≤ 10000 := by
    have := count_valid vk
    obtain ⟨s', q1, _⟩ := (reads_shape rds).2
    have h3 : (lns rows).length ≤ t.length := by rw [q1]; simp
    have := List.count_le_length (a := 10) (l := lns rows)
    omega
  have tn : ((E.length : Nat) : Int).toNat = E.length := Int.toNat_natCast _
  generalize hst : (lns (E.take k)).length = st at F1 ck2 ck3
  have hdst : t.drop st = s := by rw [hs, ← hst, List.drop_left]
  have ct : cutL (E.map Ev.row) none (some (k : Int)) = (E.take k).map Ev.row := by rw [cutL_take, List.map_take]
  -- the tick before
  have lowv : (if 0 < k then (match E[k - 1]? with | some e => some e.t | none => none) else some 0) = some (lastT 0 (E.take k)) := by
    by_cases h0 : 0 < k
    · rw [if_pos h0, List.getElem?_eq_getElem (by omega)]
      dsimp only
      have := take_snoc (List.getElem?_eq_getElem (show k - 1 < E.length by omega))
      rw [show k - 1 + 1 = k by omega] at this
      rw [this, lastT_snoc]
    · rw [if_neg h0]
      obtain rfl : k = 0 := by omega
      rfl
  generalize hlw : lastT 0 (E.take k) = lw at rd2 low4 lowv
  -- the second loop
  have main : ∀ (z : Option D), ∃ o2, forL (fun _ => True) (tgName 6) p__law_due_2 (rgD 0 4) [some (.ref e), some (.ref l), some (.str t), some (.int p), some (.int k), some (.int st), x, some (.ref h.length), some (.int lw), none, z] (h ++ [.lst ((E.take k).map Ev.row)]) = o2 ∧
      ((∃ h', h <+: h' ∧ o2 = .rt (outT rows o) h') ∨ (∃ h' x' y' f low' st' R1 R2, h <+: h' ∧ h'[f]? = some (.lst ((E.take k ++ R1).map Ev.row)) ∧ rows2 = R1 ++ R2 ∧ Reads low' (t.drop st') R2 o ∧ Adv 4 lw s low' (t.drop st') ∧ o2 = .nx [some (.ref e), some (.ref l), some (.str t), some (.int p), some (.int k), some (.int (st' : Nat)), x', some (.ref f), some (.int (low' : Nat)), y', z] h')) := by
    intro z
    refine ⟨_, rfl, ?_⟩
    generalize ho : forL _ _ _ _ _ _ = o2
    refine forL_run ho (fun i ρ h' => i ≤ 4 ∧ ∃ (x' y' : Option D) (f low' st' : Nat) (R1 R2 : List Ev), h <+: h' ∧ h'[f]? = some (.lst ((E.take k ++ R1).map Ev.row)) ∧ rows2 = R1 ++ R2 ∧ Reads low' (t.drop st') R2 o ∧ low' ≤ 400 ∧ (∀ low'' s'', Adv (4 - i) low' (t.drop st') low'' s'' → Adv 4 lw s low'' s'') ∧ ρ = [some (.ref e), some (.ref l), some (.str t), some (.int p), some (.int k), some (.int st'), x', some (.ref f), some (.int low'), y', z])
      (fun o2 => ((∃ h', h <+: h' ∧ o2 = .rt (outT rows o) h') ∨ (∃ h' x' y' f low' st' R1 R2, h <+: h' ∧ h'[f]? = some (.lst ((E.take k ++ R1).map Ev.row)) ∧ rows2 = R1 ++ R2 ∧ Reads low' (t.drop st') R2 o ∧ Adv 4 lw s low' (t.drop st') ∧ o2 = .nx [some (.ref e), some (.ref l), some (.str t), some (.int p), some (.int k), some (.int (st' : Nat)), x', some (.ref f), some (.int (low' : Nat)), y', z] h'))) ?_ ?_ ?_
    · rintro i d ρ h' hi ⟨hil, x', y', f, low', st', R1, R2, q1, q2, q3, q4, q5, q6, rfl⟩
      obtain ⟨hin, rfl⟩ := rgD_get hi
      refine ⟨trivial, [some (.ref e), some (.ref l), some (.str t), some (.int p), some (.int k), some (.int st'), some (.int i), some (.ref f), some (.int low'), y', z], by simp only [mkFn, sSeq, sNil, sBrk, sCnt, bindS, sExpr, sRet, sRetN, sIf, sSet, sSetIdx, sAug, sAsg, tgName, tgTup, tgSeq, Py.R.bind, Py.R.of, eVar, eC, eBin, eUn, eChain, tBool, tTru, truth, tNot', tAnd', tOr', tYes', eAnd, eOr, eNot, eIf, aNil, aCons, eTup, eLst, eCallB, eCall, eSl, oNone, oSome, pSl, pAdd, pSub, pMul_ok, pDiv, pMod, pNeg, pIAdd, pCmp, pEq, pNe, eqD, pIsN, pNotN, isNon, pIn, pNotIn, inD, pIdx, pLen, lenD, pAbs, pMax2, pMin2, pInt, pStr, pTuple, pList, pIsi, isiD, eMeth, tyD, pAppend, pCount, pRfind, pSIndex, pJoin, seqOf, Option.map_some, Option.map_none, Option.bind_some, Option.bind_none, Option.bind_eq_bind, Option.pure_def, List.getElem?_cons_zero, List.getElem?_cons_succ, List.getElem?_nil, List.set_cons_zero, List.set_cons_succ, List.set_nil, List.map_cons, List.map_nil, List.cons_append, List.nil_append, List.length_cons, List.length_nil, List.length_map, reduceIte, Bool.not_true, Bool.not_false, Bool.false_eq_true, decide_true, decide_false, Bool.and_true, Bool.true_and, beq_self_eq_true, Nat.zero_add, Option.isSome_some, sizeLine_v, and_self, Nat.reduceAdd, Int.cast_ofNat_Int, Int.natCast_zero, Int.natCast_one, Int.reduceEq, Int.reduceLT, Int.reduceLE, Int.reduceNeg, Int.reduceAdd, Int.reduceMul, Int.reduceSub, Nat.reduceEqDiff, Nat.reduceLT, Nat.reduceLeDiff, sFor, iSeq, srcOf, iSrc, pRange1, pRange2, iEnum', srcEn, Int.zero_add], ?_⟩
      have hR : (E.take k ++ R1).length ≤ 12000 := by
        have : rows.length = (E.take k).length + (R1.length + R2.length) := by rw [er, q3]; simp
        rw [List.length_append]
        omega
      obtain ⟨T1, T2⟩ := due_turn ht (p := p) (st := st') q5 hR q2 (some (.ref e)) (some (.ref l)) (some (.int p)) (some (.int k)) (some (.int i)) y' z
      by_cases hlt : st' < t.length
      · obtain ⟨T3, T4⟩ := T2 hlt
        have hne : t.drop st' ≠ [] := by
          intro z
          have := congrArg List.length z
          simp at this
          omega
        cases hr : rdLine low' (t.drop st') with
        | fail m =>
          obtain ⟨h'', p2, T⟩ := T3 m hr
          rw [T]
          obtain ⟨g1, g2⟩ := reads_fail q4 hne hr
          left
          refine ⟨h'', q1.trans p2, ?_⟩
          rw [g2, er, q3, g1, List.append_nil]
        | ok ev len =>
          obtain ⟨h'', f', y'', p2, g, T⟩ := T4 ev len hr
          rw [T]
          obtain ⟨R3, g1, g2⟩ := reads_go q4 hne hr
          refine ⟨by omega, some (.int i), y'', f', ev.t, st' + len, R1 ++ [ev], R3, q1.trans p2, by rw [g, List.append_assoc], by rw [q3, g1]; simp, by rw [← List.drop_drop]; exact g2, (rdLine_ok hr).1.1, fun low'' s'' A => q6 _ _ ?_, rfl⟩
          rw [show 4 - i = (4 - (i + 1)) + 1 by omega]
          refine .step hne hr ?_
          rw [List.drop_drop]
          exact A
      · rw [T1 hlt]
        have hnil : t.drop st' = [] := List.drop_of_length_le (by omega)
        refine ⟨by omega, some (.int i), y', f, low', st', R1, R2, q1, q2, q3, q4, q5, fun low'' s'' A => q6 _ _ ?_, rfl⟩
        rw [show 4 - i = (4 - (i + 1)) + 1 by omega]
        rw [hnil] at A ⊢
        exact .nil A
    · rintro ρ h' ⟨hil, x', y', f, low', st', R1, R2, q1, q2, q3, q4, q5, q6, rfl⟩
      rw [rgD_len] at q6
      exact ⟨trivial, .inr ⟨h', x', y', f, low', st', R1, R2, q1, q2, q3, q4, q6 _ _ (.zero _ _), rfl⟩⟩
    · refine ⟨by omega, x, none, h.length, lw, st, [], rows2, List.prefix_append _ _, by rw [List.append_nil]; exact get_app_new, rfl, by rw [hdst]; exact rd2, low4, fun low'' s'' A => by rw [hdst] at A; exact A, rfl⟩
  obtain ⟨o2, E2, M⟩ := main none
  have h1' : itemsL (h ++ [Cell.lst ((E.take k).map Ev.row)]) e = some (E.map Ev.row) := pre_items (List.prefix_append _ _) h1
  have fin : ∀ (X : O), X = o2 → ∃ h', h <+: h' ∧ (match (match X with
      | .nx ρ' h' => sSeq (sSet 10 (eMeth "str" pCount (eSl (eVar 2) (oSome (eVar 5)) oNone) (aCons (eC (.str [10])) aNil))) (sRet (eTup (aCons (eCallB pTuple (aCons (eBin pAdd (eVar 7) (eSl (eVar 0) (oSome (eBin pSub (eCallB pLen (aCons (eVar 0) aNil)) (eVar 10))) oNone)) aNil)) (aCons (eC (.int 0)) (aCons (eC (.int 0)) aNil))))) ρ' h'
      | o => o) with
      | .nx _ h' => Py.R.ok D.non h'
      | .rt d h' => .ok d h'
      | .ex c fs _ h' => .ex c fs h'
      | _ => .bad) = .ok (outT rows o) h' := by
    rintro X rfl
    rcases M with ⟨h', p1, rfl⟩ | ⟨h', x', y', f, low', st', R1, R2, q1, q2, q3, q4, q5, rfl⟩
    · exact ⟨h', p1, rfl⟩
    · have ok := ali_adv hE q5 2 (by omega) hal
      obtain ⟨eo, e2⟩ := ok_reads ok q4
      subst eo
      have t1 : t.length ≤ 16777216 := by omega
      have cnt : (t.drop st').count 10 ≤ E.length := by
        obtain ⟨j, e3, e4⟩ := ok
        rw [e3, count_lns e4, List.length_drop]
        omega
      have sb : ((E.length : Nat) : Int) - (((t.drop st').count 10 : Nat) : Int) = ((E.length - (t.drop st').count 10 : Nat) : Int) := by omega
      have i1 := pre_items q1 h1
      have ls := lstOf_lst (get_app_old (t := [Cell.lst ((E.map Ev.row).drop (E.length - (t.drop st').count 10))]) q2)
      have ln : lstOf (h' ++ [Cell.lst ((E.map Ev.row).drop (E.length - (t.drop st').count 10))]) h'.length = some ((E.map Ev.row).drop (E.length - (t.drop st').count 10)) := lstOf_lst get_app_new
      have bd : ((E.take k ++ R1).map Ev.row).length + ((E.map Ev.row).drop (E.length - (t.drop st').count 10)).length ≤ 16777216 := by
        have : rows.length = (E.take k).length + (R1.length + R2.length) := by rw [er, q3]; simp
        simp only [List.length_map, List.length_append, List.length_drop]
        omega
      have bd' : (E.take k ++ R1).length + ((E.map Ev.row).drop (E.length - (t.drop st').count 10)).length ≤ 16777216 := by rw [List.length_map] at bd; exact bd
      have it : itemsL (h' ++ [Cell.lst ((E.map Ev.row).drop (E.length - (t.drop st').count 10))] ++ [Cell.lst ((E.take k ++ R1).map Ev.row ++ (E.map Ev.row).drop (E.length - (t.drop st').count 10))]) (h' ++ [Cell.lst ((E.map Ev.row).drop (E.length - (t.drop st').count 10))]).length = some ((E.take k ++ R1).map Ev.row ++ (E.map Ev.row).drop (E.length - (t.drop st').count 10)) := itemsL_lst get_app_new
      have fr : outT rows none = .tup [.tup ((E.take k ++ R1).map Ev.row ++ (E.map Ev.row).drop (E.length - (t.drop st').count 10)), .int 0, .int 0] := by
        unfold outT
        rw [er, q3, e2]
        simp
      rw [fr]
      refine ⟨_, ?_, by
        simp only [mkFn, sSeq, sNil, sBrk, sCnt, bindS, sExpr, sRet, sRetN, sIf, sSet, sSetIdx, sAug, sAsg, tgName, tgTup, tgSeq, Py.R.bind, Py.R.of, eVar, eC, eBin, eUn, eChain, tBool, tTru, truth, tNot', tAnd', tOr', tYes', eAnd, eOr, eNot, eIf, aNil, aCons, eTup, eLst, eCallB, eCall, eSl, oNone, oSome, pSl, pAdd, pSub, pMul_ok, pDiv, pMod, pNeg, pIAdd, pCmp, pEq, pNe, eqD, pIsN, pNotN, isNon, pIn, pNotIn, inD, pIdx, pLen, lenD, pAbs, pMax2, pMin2, pInt, pStr, pTuple, pList, pIsi, isiD, eMeth, tyD, pAppend, pCount, pRfind, pSIndex, pJoin, seqOf, Option.map_some, Option.map_none, Option.bind_some, Option.bind_none, Option.bind_eq_bind, Option.pure_def, List.getElem?_cons_zero, List.getElem?_cons_succ, List.getElem?_nil, List.set_cons_zero, List.set_cons_succ, List.set_nil, List.map_cons, List.map_nil, List.cons_append, List.nil_append, List.length_cons, List.length_nil, List.length_map, reduceIte, Bool.not_true, Bool.not_false, Bool.false_eq_true, decide_true, decide_false, Bool.and_true, Bool.true_and, beq_self_eq_true, Nat.zero_add, Option.isSome_some, sizeLine_v, and_self, Nat.reduceAdd, Int.cast_ofNat_Int, Int.natCast_zero, Int.natCast_one, Int.reduceEq, Int.reduceLT, Int.reduceLE, Int.reduceNeg, Int.reduceAdd, Int.reduceMul, Int.reduceSub, Nat.reduceEqDiff, Nat.reduceLT, Nat.reduceLeDiff, sFor, iSeq, srcOf, iSrc, pRange1, pRange2, iEnum', srcEn, t1, cutL_drop, i1, ls, ln, bd', it, sb, beq_self_eq_true]
        rfl⟩
      · rw [List.append_assoc]
        exact q1.trans (List.prefix_append _ _)
  by_cases h0 : 0 < k
  · have kk : (0 : Int) < (k : Int) := by omega
    have k1 : (k : Int) - 1 = ((k - 1 : Nat) : Int) := by omega
    rw [if_pos h0, List.getElem?_eq_getElem (by omega)] at lowv
    have lv : (E[k - 1]'(by omega)).t = lw := Option.some.inj lowv
    obtain ⟨u, v, hat⟩ : ∃ u v, L2.atI (E.map Ev.row) ((k - 1 : Nat) : Int) = some (.tup [.int lw, u, v]) := by
      refine ⟨_, _, (show _ = some (E[k - 1]'(by omega)).row from ?_).trans (by unfold Ev.row; rw [lv])⟩
      rw [Py.atI_nat, List.getElem?_map, List.getElem?_eq_getElem (by omega)]
      rfl
    have := fin o2 rfl
    simp only [mkFn, sSeq, sNil, sBrk, sCnt, bindS, sExpr, sRet, sRetN, sIf, sSet, sSetIdx, sAug, sAsg, tgName, tgTup, tgSeq, Py.R.bind, Py.R.of, eVar, eC, eBin, eUn, eChain, tBool, tTru, truth, tNot', tAnd', tOr', tYes', eAnd, eOr, eNot, eIf, aNil, aCons, eTup, eLst, eCallB, eCall, eSl, oNone, oSome, pSl, pAdd, pSub, pMul_ok, pDiv, pMod, pNeg, pIAdd, pCmp, pEq, pNe, eqD, pIsN, pNotN, isNon, pIn, pNotIn, inD, pIdx, pLen, lenD, pAbs, pMax2, pMin2, pInt, pStr, pTuple, pList, pIsi, isiD, eMeth, tyD, pAppend, pCount, pRfind, pSIndex, pJoin, seqOf, Option.map_some, Option.map_none, Option.bind_some, Option.bind_none, Option.bind_eq_bind, Option.pure_def, List.getElem?_cons_zero, List.getElem?_cons_succ, List.getElem?_nil, List.set_cons_zero, List.set_cons_succ, List.set_nil, List.map_cons, List.map_nil, List.cons_append, List.nil_append, List.length_cons, List.length_nil, List.length_map, reduceIte, Bool.not_true, Bool.not_false, Bool.false_eq_true, decide_true, decide_false, Bool.and_true, Bool.true_and, beq_self_eq_true, Nat.zero_add, Option.isSome_some, sizeLine_v, and_self, Nat.reduceAdd, Int.cast_ofNat_Int, Int.natCast_zero, Int.natCast_one, Int.reduceEq, Int.reduceLT, Int.reduceLE, Int.reduceNeg, Int.reduceAdd, Int.reduceMul, Int.reduceSub, Nat.reduceEqDiff, Nat.reduceLT, Nat.reduceLeDiff, sFor, iSeq, srcOf, iSrc, pRange1, pRange2, iEnum', srcEn] at this
    simp only [mkFn, sSeq, sNil, sBrk, sCnt, bindS, sExpr, sRet, sRetN, sIf, sSet, sSetIdx, sAug, sAsg, tgName, tgTup, tgSeq, Py.R.bind, Py.R.of, eVar, eC, eBin, eUn, eChain, tBool, tTru, truth, tNot', tAnd', tOr', tYes', eAnd, eOr, eNot, eIf, aNil, aCons, eTup, eLst, eCallB, eCall, eSl, oNone, oSome, pSl, pAdd, pSub, pMul_ok, pDiv, pMod, pNeg, pIAdd, pCmp, pEq, pNe, eqD, pIsN, pNotN, isNon, pIn, pNotIn, inD, pIdx, pLen, lenD, pAbs, pMax2, pMin2, pInt, pStr, pTuple, pList, pIsi, isiD, eMeth, tyD, pAppend, pCount, pRfind, pSIndex, pJoin, seqOf, Option.map_some, Option.map_none, Option.bind_some, Option.bind_none, Option.bind_eq_bind, Option.pure_def, List.getElem?_cons_zero, List.getElem?_cons_succ, List.getElem?_nil, List.set_cons_zero, List.set_cons_succ, List.set_nil, List.map_cons, List.map_nil, List.cons_append, List.nil_append, List.length_cons, List.length_nil, List.length_map, reduceIte, Bool.not_true, Bool.not_false, Bool.false_eq_true, decide_true, decide_false, Bool.and_true, Bool.true_and, beq_self_eq_true, Nat.zero_add, Option.isSome_some, sizeLine_v, and_self, Nat.reduceAdd, Int.cast_ofNat_Int, Int.natCast_zero, Int.natCast_one, Int.reduceEq, Int.reduceLT, Int.reduceLE, Int.reduceNeg, Int.reduceAdd, Int.reduceMul, Int.reduceSub, Nat.reduceEqDiff, Nat.reduceLT, Nat.reduceLeDiff, sFor, iSeq, srcOf, iSrc, pRange1, pRange2, iEnum', srcEn, h2, rE, tn, F1, h1, ct, kk, k1, h1', hat, at30, r4, Int.reduceToNat, E2]
    exact this
  · have kk : ¬ (0 : Int) < (k : Int) := by omega
    rw [if_neg h0] at lowv
    have lv : 0 = lw := Option.some.inj lowv
    subst lv
    have := fin o2 rfl
    simp only [mkFn, sSeq, sNil, sBrk, sCnt, bindS, sExpr, sRet, sRetN, sIf, sSet, sSetIdx, sAug, sAsg, tgName, tgTup, tgSeq, Py.R.bind, Py.R.of, eVar, eC, eBin, eUn, eChain, tBool, tTru, truth, tNot', tAnd', tOr', tYes', eAnd, eOr, eNot, eIf, aNil, aCons, eTup, eLst, eCallB, eCall, eSl, oNone, oSome, pSl, pAdd, pSub, pMul_ok, pDiv, pMod, pNeg, pIAdd, pCmp, pEq, pNe, eqD, pIsN, pNotN, isNon, pIn, pNotIn, inD, pIdx, pLen, lenD, pAbs, pMax2, pMin2, pInt, pStr, pTuple, pList, pIsi, isiD, eMeth, tyD, pAppend, pCount, pRfind, pSIndex, pJoin, seqOf, Option.map_some, Option.map_none, Option.bind_some, Option.bind_none, Option.bind_eq_bind, Option.pure_def, List.getElem?_cons_zero, List.getElem?_cons_succ, List.getElem?_nil, List.set_cons_zero, List.set_cons_succ, List.set_nil, List.map_cons, List.map_nil, List.cons_append, List.nil_append, List.length_cons, List.length_nil, List.length_map, reduceIte, Bool.not_true, Bool.not_false, Bool.false_eq_true, decide_true, decide_false, Bool.and_true, Bool.true_and, beq_self_eq_true, Nat.zero_add, Option.isSome_some, sizeLine_v, and_self, Nat.reduceAdd, Int.cast_ofNat_Int, Int.natCast_zero, Int.natCast_one, Int.reduceEq, Int.reduceLT, Int.reduceLE, Int.reduceNeg, Int.reduceAdd, Int.reduceMul, Int.reduceSub, Nat.reduceEqDiff, Nat.reduceLT, Nat.reduceLeDiff, sFor, iSeq, srcOf, iSrc, pRange1, pRange2, iEnum', srcEn] at this
    rw [Int.natCast_zero] at E2
    simp only [mkFn, sSeq, sNil, sBrk, sCnt, bindS, sExpr, sRet, sRetN, sIf, sSet, sSetIdx, sAug, sAsg, tgName, tgTup, tgSeq, Py.R.bind, Py.R.of, eVar, eC, eBin, eUn, eChain, tBool, tTru, truth, tNot', tAnd', tOr', tYes', eAnd, eOr, eNot, eIf, aNil, aCons, eTup, eLst, eCallB, eCall, eSl, oNone, oSome, pSl, pAdd, pSub, pMul_ok, pDiv, pMod, pNeg, pIAdd, pCmp, pEq, pNe, eqD, pIsN, pNotN, isNon, pIn, pNotIn, inD, pIdx, pLen, lenD, pAbs, pMax2, pMin2, pInt, pStr, pTuple, pList, pIsi, isiD, eMeth, tyD, pAppend, pCount, pRfind, pSIndex, pJoin, seqOf, Option.map_some, Option.map_none, Option.bind_some, Option.bind_none, Option.bind_eq_bind, Option.pure_def, List.getElem?_cons_zero, List.getElem?_cons_succ, List.getElem?_nil, List.set_cons_zero, List.set_cons_succ, List.set_nil, List.map_cons, List.map_nil, List.cons_append, List.nil_append, List.length_cons, List.length_nil, List.length_map, reduceIte, Bool.not_true, Bool.not_false, Bool.false_eq_true, decide_true, decide_false, Bool.and_true, Bool.true_and, beq_self_eq_true, Nat.zero_add, Option.isSome_some, sizeLine_v, and_self, Nat.reduceAdd, Int.cast_ofNat_Int, Int.natCast_zero, Int.natCast_one, Int.reduceEq, Int.reduceLT, Int.reduceLE, Int.reduceNeg, Int.reduceAdd, Int.reduceMul, Int.reduceSub, Nat.reduceEqDiff, Nat.reduceLT, Nat.reduceLeDiff, sFor, iSeq, srcOf, iSrc, pRange1, pRange2, iEnum', srcEn, h2, rE, tn, F1, h1, ct, kk, h1', at30, r4, Int.reduceToNat, E2]
    exact this
end T75
set_option Elab.async false
set_option linter.all false
set_option maxRecDepth 100000
set_option maxHeartbeats 4000000
namespace T75
open PySem PySem.Spec PyProof.Rows L2 Py
theorem changed_ok {E : List Ev} (hE : Asc 0 E) {p k : Nat} (c : Cut E p k) {t : List Nat}
    (ht : (∃ g q, t = (lns E).take p ++ g ++ (lns E).drop q ∧ g.length ≤ 1 ∧ (q = p ∨ q = p + 1)) ∨ t = (lns E).take p) : ∃ s, t = lns (E.take k) ++ s ∧ Ali E 2 s := by
  obtain ⟨c1, c2, c3⟩ := c
  have hs : lns E = lns (E.take k) ++ lns (E.drop k) := by rw [← lns_append, List.take_append_drop]
  generalize hA : lns (E.take k) = A at c2 c3 hs ⊢
  have tk : (lns E).take p = A ++ (lns (E.drop k)).take (p - A.length) := by rw [hs, List.take_append, List.take_of_length_le c2]
  have dk : ∀ q, p ≤ q → (lns E).drop q = (lns (E.drop k)).drop (q - A.length) := fun q hq => by rw [hs, List.drop_append, List.drop_of_length_le (by omega), List.nil_append]
  generalize ho : p - A.length = o at tk
  have nolast : E.drop E.length = [] := List.drop_length
  cases hd : E.drop k with
  | nil =>
    rw [hd] at tk dk
    rcases ht with ⟨g, q, e, hg, hq⟩ | e
    · refine ⟨g, by rw [e, tk, dk q (by omega)]; simp [lns], g, k, by rw [hd]; simp [lns], .inr (.inr hd), ?_⟩
      have := List.count_le_length (a := 10) (l := g)
      omega
    · refine ⟨[], by rw [e, tk]; simp [lns], [], k, by rw [hd]; rfl, .inl rfl, Nat.zero_le _⟩
  | cons f es =>
    have hf : E[k]? = some f := by
      have := congrArg (fun l => l[0]?) hd
      simpa using this
    have hk1 : E.drop (k + 1) = es := by rw [← List.drop_drop, hd]; rfl
    have v := (asc_get hE hf).2
    have hlt := c3 f hf
    obtain ⟨b, hb, hb10⟩ := line_nl v
    have hbl : f.line.length = b.length + 1 := by rw [hb]; simp
    rw [hd, lns_cons] at tk
    rw [List.take_append_of_le_length (by omega)] at tk
    have cnt := line_count v
    have csplit : ∀ n, (f.line.take n).count 10 + (f.line.drop n).count 10 = 1 := fun n => by rw [← List.count_append, List.take_append_drop, cnt]
    rcases ht with ⟨g, q, e, hg, hq⟩ | e
    · have gc := List.count_le_length (a := 10) (l := g)
      have dq := dk q (by omega)
      rw [hd, lns_cons, List.drop_append] at dq
      generalize hqo : q - A.length = q' at dq
      have hq' : q' = o ∨ q' = o + 1 := by omega
      rw [show q' - f.line.length = 0 by omega, List.drop_zero] at dq
      have se : t = A ++ (f.line.take o ++ g ++ f.line.drop q' ++ lns es) := by rw [e, tk, dq]; simp
      have cdrop : (f.line.drop q').count 10 ≤ (f.line.drop o).count 10 := by
        rcases hq' with h | h
        · rw [h]; exact Nat.le_refl _
        · rw [h, ← List.drop_drop]
          exact List.Sublist.count_le _ (List.drop_sublist _ _)
      have c0 := csplit o
      by_cases hlast : q' < f.line.length
      · refine ⟨_, se, f.line.take o ++ g ++ f.line.drop q', k + 1, by rw [hk1], .inr (.inl ?_), by simp only [List.count_append]; omega⟩
        have : f.line.drop q' = b.drop q' ++ [10] := by rw [hb, List.drop_append_of_le_length (by omega)]
        rw [this, ← List.append_assoc]
        simp
      · have hdn : f.line.drop q' = [] := List.drop_of_length_le (by omega)
        have htk : f.line.take o = b := by rw [hb, List.take_append_of_le_length (by omega), List.take_of_length_le (by omega)]
        rw [hdn, htk, List.append_nil] at se
        have bc : b.count 10 = 0 := List.count_eq_zero.mpr hb10
        cases hes : es with
        | nil => exact ⟨_, se, b ++ g, k + 1, by rw [hk1, hes], .inr (.inr (by rw [hk1, hes])), by rw [List.count_append]; omega⟩
        | cons f2 es2 =>
          have hf2 : E[k + 1]? = some f2 := by
            have := congrArg (fun l => l[0]?) (hk1.trans hes)
            simpa using this
          have v2 := (asc_get hE hf2).2
          obtain ⟨b2, hb2, _⟩ := line_nl v2
          have hk2 : E.drop (k + 2) = es2 := by rw [show k + 2 = k + 1 + 1 from rfl, ← List.drop_drop, hk1, hes]; rfl
          refine ⟨_, se, b ++ g ++ f2.line, k + 2, by rw [hk2, hes, lns_cons]; simp, .inr (.inl (by rw [hb2]; simp)), ?_⟩
          have := line_count v2
          simp only [List.count_append]
          omega
    · refine ⟨_, e.trans tk, f.line.take o, E.length, by rw [nolast]; simp [lns], .inr (.inr nolast), ?_⟩
      have := csplit o
      omega
/-! ### the draws of a change -/
theorem sign_ok {ns : List Int} {h : HH} {b : Nat} (B : Bag b h) (hs : h[0]? = some (.scr (ns.map D.int))) (hb : b ≠ 0) :
    ∃ (c : Nat) (h' : HH), Bag b h' ∧ Ext b h h' ∧ fn__law_sign [.ref b, .ref 0] h = .ok (.str [c]) h' := by
  unfold fn__law_sign b__law_sign
  obtain ⟨r1, h1, a1, a2, B1, x1, l1, e1⟩ := take_ok (many := 3) B hs hb (by decide) (by decide)
  have hs1 := x1.get (Ne.symm hb) hs
  have at_ : ∀ (s : List Nat) (r : Int), 0 ≤ r → r < (s.length : Int) → ∃ c, L2.atI s r = some c := fun s r h0 h1 => by
    have : r.toNat < s.length := by omega
    exact ⟨_, atI_at h0 (List.getElem?_eq_getElem this)⟩
  by_cases q : r1 = 0
  · obtain ⟨r2, h2, c1, c2, B2, x2, l2, e2⟩ := take_ok (many := 95) B1 hs1 hb (by decide) (by decide)
    generalize hS : ([32, 33, 34, 35, 36, 38, 39, 40, 41, 42, 43, 44, 45, 46, 47, 48, 49, 50, 51, 52, 53, 54, 55, 56, 57, 58, 59, 60, 61, 62, 63, 64, 65, 66, 67, 68, 69, 70, 71, 72, 73, 74, 75, 76, 77, 78, 79, 80, 81, 82, 83, 84, 85, 86, 87, 88, 89, 90, 91, 92, 93, 94, 95, 96, 97, 98, 99, 100, 101, 102, 103, 104, 105, 106, 107, 108, 109, 110, 111, 112, 113, 114, 115, 116, 117, 118, 119, 120, 121, 122, 123, 124, 125, 126, 10] : List Nat) = S
    have hl : S.length = 95 := by rw [← hS]; rfl
    obtain ⟨c, hc⟩ := at_ S r2 c1 (by rw [hl]; exact c2)
    refine ⟨c, h2, B2, x1.trans x2, ?_⟩
    simp only [mkFn, sSeq, sNil, sBrk, sCnt, bindS, sExpr, sRet, sRetN, sIf, sSet, sSetIdx, sAug, sAsg, tgName, tgTup, tgSeq, Py.R.bind, Py.R.of, eVar, eC, eBin, eUn, eChain, tBool, tTru, truth, tNot', tAnd', tOr', tYes', eAnd, eOr, eNot, eIf, aNil, aCons, eTup, eLst, eCallB, eCall, eSl, oNone, oSome, pSl, pAdd, pSub, pMul_ok, pDiv, pMod, pNeg, pIAdd, pCmp, pEq, pNe, eqD, pIsN, pNotN, isNon, pIn, pNotIn, inD, pIdx, pLen, lenD, pAbs, pMax2, pMin2, pInt, pStr, pTuple, pList, pIsi, isiD, eMeth, tyD, pAppend, pCount, pRfind, pSIndex, pJoin, seqOf, Option.map_some, Option.map_none, Option.bind_some, Option.bind_none, Option.bind_eq_bind, Option.pure_def, List.getElem?_cons_zero, List.getElem?_cons_succ, List.getElem?_nil, List.set_cons_zero, List.set_cons_succ, List.set_nil, List.map_cons, List.map_nil, List.cons_append, List.nil_append, List.length_cons, List.length_nil, List.length_map, reduceIte, Bool.not_true, Bool.not_false, Bool.false_eq_true, decide_true, decide_false, Bool.and_true, Bool.true_and, beq_self_eq_true, Nat.zero_add, Option.isSome_some, sizeLine_v, and_self, Nat.reduceAdd, Int.cast_ofNat_Int, Int.natCast_zero, Int.natCast_one, Int.reduceEq, Int.reduceLT, Int.reduceLE, Int.reduceNeg, Int.reduceAdd, Int.reduceMul, Int.reduceSub, Nat.reduceEqDiff, Nat.reduceLT, Nat.reduceLeDiff, sFor, iSeq, srcOf, iSrc, pRange1, pRange2, iEnum', srcEn, e1, q, hl, e2, hc]
  · obtain ⟨r2, h2, c1, c2, B2, x2, l2, e2⟩ := take_ok (many := 12) B1 hs1 hb (by decide) (by decide)
    generalize hT : ([48, 49, 50, 51, 52, 53, 54, 55, 56, 57, 32, 10] : List Nat) = S
    have hl : S.length = 12 := by rw [← hT]; rfl
    obtain ⟨c, hc⟩ := at_ S r2 c1 (by rw [hl]; exact c2)
    refine ⟨c, h2, B2, x1.trans x2, ?_⟩
    simp only [mkFn, sSeq, sNil, sBrk, sCnt, bindS, sExpr, sRet, sRetN, sIf, sSet, sSetIdx, sAug, sAsg, tgName, tgTup, tgSeq, Py.R.bind, Py.R.of, eVar, eC, eBin, eUn, eChain, tBool, tTru, truth, tNot', tAnd', tOr', tYes', eAnd, eOr, eNot, eIf, aNil, aCons, eTup, eLst, eCallB, eCall, eSl, oNone, oSome, pSl, pAdd, pSub, pMul_ok, pDiv, pMod, pNeg, pIAdd, pCmp, pEq, pNe, eqD, pIsN, pNotN, isNon, pIn, pNotIn, inD, pIdx, pLen, lenD, pAbs, pMax2, pMin2, pInt, pStr, pTuple, pList, pIsi, isiD, eMeth, tyD, pAppend, pCount, pRfind, pSIndex, pJoin, seqOf, Option.map_some, Option.map_none, Option.bind_some, Option.bind_none, Option.bind_eq_bind, Option.pure_def, List.getElem?_cons_zero, List.getElem?_cons_succ, List.getElem?_nil, List.set_cons_zero, List.set_cons_succ, List.set_nil, List.map_cons, List.map_nil, List.cons_append, List.nil_append, List.length_cons, List.length_nil, List.length_map, reduceIte, Bool.not_true, Bool.not_false, Bool.false_eq_true, decide_true, decide_false, Bool.and_true, Bool.true_and, beq_self_eq_true, Nat.zero_add, Option.isSome_some, sizeLine_v, and_self, Nat.reduceAdd, Int.cast_ofNat_Int, Int.natCast_zero, Int.natCast_one, Int.reduceEq, Int.reduceLT, Int.reduceLE, Int.reduceNeg, Int.reduceAdd, Int.reduceMul, Int.reduceSub, Nat.reduceEqDiff, Nat.reduceLT, Nat.reduceLeDiff, sFor, iSeq, srcOf, iSrc, pRange1, pRange2, iEnum', srcEn, e1, q, hl, e2, hc]
theorem change_ok {ns : List Int} {h : HH} {b : Nat} (B : Bag b h) (hs : h[0]? = some (.scr (ns.map D.int))) (hb : b ≠ 0) {T : List Nat} (hT : T.length ≤ 9000) {p : Nat} :
    ∃ (t : List Nat) (h' : HH), Bag b h' ∧ Ext b h h' ∧ t.length ≤ 10000 ∧ ((∃ g q, t = T.take p ++ g ++ T.drop q ∧ g.length ≤ 1 ∧ (q = p ∨ q = p + 1)) ∨ t = T.take p) ∧ fn__law_changed [.ref b, .ref 0, .str T, .int p] h = .ok (.str t) h' := by
  unfold fn__law_changed b__law_changed
  obtain ⟨r1, h1, a1, a2, B1, x1, l1, e1⟩ := take_ok (many := 4) B hs hb (by decide) (by decide)
  have hs1 := x1.get (Ne.symm hb) hs
  obtain ⟨c, h2, B2, x2, e2⟩ := sign_ok B1 hs1 hb
  have t1 : T.length ≤ 16777216 := by omega
  have u1 : (T.take p).length ≤ 9000 := by rw [List.length_take]; omega
  have u2 : ∀ q, (T.drop q).length ≤ 9000 := fun q => by rw [List.length_drop]; omega
  have u3 := u2 p
  have u4 := u2 (p + 1)
  have u5 : (T.take p).length + (T.drop p).length ≤ 9000 := by rw [List.length_take, List.length_drop]; omega
  have u6 : (T.take p).length + (T.drop (p + 1)).length ≤ 9000 := by rw [List.length_take, List.length_drop]; omega
  by_cases q0 : r1 = 0
  · refine ⟨T.take p ++ [c] ++ T.drop (p + 1), h2, B2, x1.trans x2, by simp only [List.length_append, List.length_singleton]; omega, .inl ⟨[c], p + 1, rfl, by simp, .inr rfl⟩, ?_⟩
    simp (disch := omega) only [mkFn, sSeq, sNil, sBrk, sCnt, bindS, sExpr, sRet, sRetN, sIf, sSet, sSetIdx, sAug, sAsg, tgName, tgTup, tgSeq, Py.R.bind, Py.R.of, eVar, eC, eBin, eUn, eChain, tBool, tTru, truth, tNot', tAnd', tOr', tYes', eAnd, eOr, eNot, eIf, aNil, aCons, eTup, eLst, eCallB, eCall, eSl, oNone, oSome, pSl, pAdd, pSub, pMul_ok, pDiv, pMod, pNeg, pIAdd, pCmp, pEq, pNe, eqD, pIsN, pNotN, isNon, pIn, pNotIn, inD, pIdx, pLen, lenD, pAbs, pMax2, pMin2, pInt, pStr, pTuple, pList, pIsi, isiD, eMeth, tyD, pAppend, pCount, pRfind, pSIndex, pJoin, seqOf, Option.map_some, Option.map_none, Option.bind_some, Option.bind_none, Option.bind_eq_bind, Option.pure_def, List.getElem?_cons_zero, List.getElem?_cons_succ, List.getElem?_nil, List.set_cons_zero, List.set_cons_succ, List.set_nil, List.map_cons, List.map_nil, List.cons_append, List.nil_append, List.length_cons, List.length_nil, List.length_map, reduceIte, Bool.not_true, Bool.not_false, Bool.false_eq_true, decide_true, decide_false, Bool.and_true, Bool.true_and, beq_self_eq_true, Nat.zero_add, Option.isSome_some, sizeLine_v, and_self, Nat.reduceAdd, Int.cast_ofNat_Int, Int.natCast_zero, Int.natCast_one, Int.reduceEq, Int.reduceLT, Int.reduceLE, Int.reduceNeg, Int.reduceAdd, Int.reduceMul, Int.reduceSub, Nat.reduceEqDiff, Nat.reduceLT, Nat.reduceLeDiff, sFor, iSeq, srcOf, iSrc, pRange1, pRange2, iEnum', srcEn, if_pos, if_neg, e1, e2, q0, t1, cutL_take, cutL_drop, nat_add1, List.length_append]
  · by_cases q1 : r1 = 1
    · refine ⟨T.take p ++ [c] ++ T.drop p, h2, B2, x1.trans x2, by simp only [List.length_append, List.length_singleton]; omega, .inl ⟨[c], p, rfl, by simp, .inl rfl⟩, ?_⟩
      simp (disch := omega) only [mkFn, sSeq, sNil, sBrk, sCnt, bindS, sExpr, sRet, sRetN, sIf, sSet, sSetIdx, sAug, sAsg, tgName, tgTup, tgSeq, Py.R.bind, Py.R.of, eVar, eC, eBin, eUn, eChain, tBool, tTru, truth, tNot', tAnd', tOr', tYes', eAnd, eOr, eNot, eIf, aNil, aCons, eTup, eLst, eCallB, eCall, eSl, oNone, oSome, pSl, pAdd, pSub, pMul_ok, pDiv, pMod, pNeg, pIAdd, pCmp, pEq, pNe, eqD, pIsN, pNotN, isNon, pIn, pNotIn, inD, pIdx, pLen, lenD, pAbs, pMax2, pMin2, pInt, pStr, pTuple, pList, pIsi, isiD, eMeth, tyD, pAppend, pCount, pRfind, pSIndex, pJoin, seqOf, Option.map_some, Option.map_none, Option.bind_some, Option.bind_none, Option.bind_eq_bind, Option.pure_def, List.getElem?_cons_zero, List.getElem?_cons_succ, List.getElem?_nil, List.set_cons_zero, List.set_cons_succ, List.set_nil, List.map_cons, List.map_nil, List.cons_append, List.nil_append, List.length_cons, List.length_nil, List.length_map, reduceIte, Bool.not_true, Bool.not_false, Bool.false_eq_true, decide_true, decide_false, Bool.and_true, Bool.true_and, beq_self_eq_true, Nat.zero_add, Option.isSome_some, sizeLine_v, and_self, Nat.reduceAdd, Int.cast_ofNat_Int, Int.natCast_zero, Int.natCast_one, Int.reduceEq, Int.reduceLT, Int.reduceLE, Int.reduceNeg, Int.reduceAdd, Int.reduceMul, Int.reduceSub, Nat.reduceEqDiff, Nat.reduceLT, Nat.reduceLeDiff, sFor, iSeq, srcOf, iSrc, pRange1, pRange2, iEnum', srcEn, if_pos, if_neg, e1, e2, q0, q1, t1, cutL_take, cutL_drop, nat_add1, List.length_append]
    · by_cases q2 : r1 = 2
      · refine ⟨T.take p ++ T.drop (p + 1), h2, B2, x1.trans x2, by simp only [List.length_append]; omega, .inl ⟨[], p + 1, by simp, by simp, .inr rfl⟩, ?_⟩
        have u7 : (T.take p).length + (T.drop (p + 1)).length ≤ 16777216 := by omega
        simp only [mkFn, sSeq, sNil, sBrk, sCnt, bindS, sExpr, sRet, sRetN, sIf, sSet, sSetIdx, sAug, sAsg, tgName, tgTup, tgSeq, Py.R.bind, Py.R.of, eVar, eC, eBin, eUn, eChain, tBool, tTru, truth, tNot', tAnd', tOr', tYes', eAnd, eOr, eNot, eIf, aNil, aCons, eTup, eLst, eCallB, eCall, eSl, oNone, oSome, pSl, pAdd, pSub, pMul_ok, pDiv, pMod, pNeg, pIAdd, pCmp, pEq, pNe, eqD, pIsN, pNotN, isNon, pIn, pNotIn, inD, pIdx, pLen, lenD, pAbs, pMax2, pMin2, pInt, pStr, pTuple, pList, pIsi, isiD, eMeth, tyD, pAppend, pCount, pRfind, pSIndex, pJoin, seqOf, Option.map_some, Option.map_none, Option.bind_some, Option.bind_none, Option.bind_eq_bind, Option.pure_def, List.getElem?_cons_zero, List.getElem?_cons_succ, List.getElem?_nil, List.set_cons_zero, List.set_cons_succ, List.set_nil, List.map_cons, List.map_nil, List.cons_append, List.nil_append, List.length_cons, List.length_nil, List.length_map, reduceIte, Bool.not_true, Bool.not_false, Bool.false_eq_true, decide_true, decide_false, Bool.and_true, Bool.true_and, beq_self_eq_true, Nat.zero_add, Option.isSome_some, sizeLine_v, and_self, Nat.reduceAdd, Int.cast_ofNat_Int, Int.natCast_zero, Int.natCast_one, Int.reduceEq, Int.reduceLT, Int.reduceLE, Int.reduceNeg, Int.reduceAdd, Int.reduceMul, Int.reduceSub, Nat.reduceEqDiff, Nat.reduceLT, Nat.reduceLeDiff, sFor, iSeq, srcOf, iSrc, pRange1, pRange2, iEnum', srcEn, e1, e2, q0, q1, q2, t1, cutL_take, cutL_drop, nat_add1, u7]
      · refine ⟨T.take p, h2, B2, x1.trans x2, by omega, .inr rfl, ?_⟩
        simp only [mkFn, sSeq, sNil, sBrk, sCnt, bindS, sExpr, sRet, sRetN, sIf, sSet, sSetIdx, sAug, sAsg, tgName, tgTup, tgSeq, Py.R.bind, Py.R.of, eVar, eC, eBin, eUn, eChain, tBool, tTru, truth, tNot', tAnd', tOr', tYes', eAnd, eOr, eNot, eIf, aNil, aCons, eTup, eLst, eCallB, eCall, eSl, oNone, oSome, pSl, pAdd, pSub, pMul_ok, pDiv, pMod, pNeg, pIAdd, pCmp, pEq, pNe, eqD, pIsN, pNotN, isNon, pIn, pNotIn, inD, pIdx, pLen, lenD, pAbs, pMax2, pMin2, pInt, pStr, pTuple, pList, pIsi, isiD, eMeth, tyD, pAppend, pCount, pRfind, pSIndex, pJoin, seqOf, Option.map_some, Option.map_none, Option.bind_some, Option.bind_none, Option.bind_eq_bind, Option.pure_def, List.getElem?_cons_zero, List.getElem?_cons_succ, List.getElem?_nil, List.set_cons_zero, List.set_cons_succ, List.set_nil, List.map_cons, List.map_nil, List.cons_append, List.nil_append, List.length_cons, List.length_nil, List.length_map, reduceIte, Bool.not_true, Bool.not_false, Bool.false_eq_true, decide_true, decide_false, Bool.and_true, Bool.true_and, beq_self_eq_true, Nat.zero_add, Option.isSome_some, sizeLine_v, and_self, Nat.reduceAdd, Int.cast_ofNat_Int, Int.natCast_zero, Int.natCast_one, Int.reduceEq, Int.reduceLT, Int.reduceLE, Int.reduceNeg, Int.reduceAdd, Int.reduceMul, Int.reduceSub, Nat.reduceEqDiff, Nat.reduceLT, Nat.reduceLeDiff, sFor, iSeq, srcOf, iSrc, pRange1, pRange2, iEnum', srcEn, e1, e2, q0, q1, q2, t1, cutL_take, cutL_drop, nat_add1]
/-! ### told and due are the same -/
def PlainD : Nat → D → Prop
  | 0, _ => False
  | _ + 1, .non => True
  | _ + 1, .bl _ => True
  | _ + 1, .int _ => True
  | _ + 1, .str _ => True
  | n + 1, .tup ds => ds.length < 1000000 ∧ ∀ d ∈ ds, PlainD n d
  | _ + 1, _ => False
theorem same_ok : ∀ (n : Nat) (d : D) (h : HH), PlainD n d → fn__law_same n [d, d] h = .ok (.bl true) h
  | 0, _, _, z => z.elim
  | n + 1, d, h, z => by
    unfold fn__law_same b__law_same
    cases d with
    | non => simp only [mkFn, sSeq, sNil, sBrk, sCnt, bindS, sExpr, sRet, sRetN, sIf, sSet, sSetIdx, sAug, sAsg, tgName, tgTup, tgSeq, Py.R.bind, Py.R.of, eVar, eC, eBin, eUn, eChain, tBool, tTru, truth, tNot', tAnd', tOr', tYes', eAnd, eOr, eNot, eIf, aNil, aCons, eTup, eLst, eCallB, eCall, eSl, oNone, oSome, pSl, pAdd, pSub, pMul_ok, pDiv, pMod, pNeg, pIAdd, pCmp, pEq, pNe, eqD, pIsN, pNotN, isNon, pIn, pNotIn, inD, pIdx, pLen, lenD, pAbs, pMax2, pMin2, pInt, pStr, pTuple, pList, pIsi, isiD, eMeth, tyD, pAppend, pCount, pRfind, pSIndex, pJoin, seqOf, Option.map_some, Option.map_none, Option.bind_some, Option.bind_none, Option.bind_eq_bind, Option.pure_def, List.getElem?_cons_zero, List.getElem?_cons_succ, List.getElem?_nil, List.set_cons_zero, List.set_cons_succ, List.set_nil, List.map_cons, List.map_nil, List.cons_append, List.nil_append, List.length_cons, List.length_nil, List.length_map, reduceIte, Bool.not_true, Bool.not_false, Bool.false_eq_true, decide_true, decide_false, Bool.and_true, Bool.true_and, beq_self_eq_true, Nat.zero_add, Option.isSome_some, sizeLine_v, and_self, Nat.reduceAdd, Int.cast_ofNat_Int, Int.natCast_zero, Int.natCast_one, Int.reduceEq, Int.reduceLT, Int.reduceLE, Int.reduceNeg, Int.reduceAdd, Int.reduceMul, Int.reduceSub, Nat.reduceEqDiff, Nat.reduceLT, Nat.reduceLeDiff, sFor, iSeq, srcOf, iSrc, pRange1, pRange2, iEnum', srcEn]
    | bl b => simp only [mkFn, sSeq, sNil, sBrk, sCnt, bindS, sExpr, sRet, sRetN, sIf, sSet, sSetIdx, sAug, sAsg, tgName, tgTup, tgSeq, Py.R.bind, Py.R.of, eVar, eC, eBin, eUn, eChain, tBool, tTru, truth, tNot', tAnd', tOr', tYes', eAnd, eOr, eNot, eIf, aNil, aCons, eTup, eLst, eCallB, eCall, eSl, oNone, oSome, pSl, pAdd, pSub, pMul_ok, pDiv, pMod, pNeg, pIAdd, pCmp, pEq, pNe, eqD, pIsN, pNotN, isNon, pIn, pNotIn, inD, pIdx, pLen, lenD, pAbs, pMax2, pMin2, pInt, pStr, pTuple, pList, pIsi, isiD, eMeth, tyD, pAppend, pCount, pRfind, pSIndex, pJoin, seqOf, Option.map_some, Option.map_none, Option.bind_some, Option.bind_none, Option.bind_eq_bind, Option.pure_def, List.getElem?_cons_zero, List.getElem?_cons_succ, List.getElem?_nil, List.set_cons_zero, List.set_cons_succ, List.set_nil, List.map_cons, List.map_nil, List.cons_append, List.nil_append, List.length_cons, List.length_nil, List.length_map, reduceIte, Bool.not_true, Bool.not_false, Bool.false_eq_true, decide_true, decide_false, Bool.and_true, Bool.true_and, beq_self_eq_true, Nat.zero_add, Option.isSome_some, sizeLine_v, and_self, Nat.reduceAdd, Int.cast_ofNat_Int, Int.natCast_zero, Int.natCast_one, Int.reduceEq, Int.reduceLT, Int.reduceLE, Int.reduceNeg, Int.reduceAdd, Int.reduceMul, Int.reduceSub, Nat.reduceEqDiff, Nat.reduceLT, Nat.reduceLeDiff, sFor, iSeq, srcOf, iSrc, pRange1, pRange2, iEnum', srcEn]
    | int i => simp only [mkFn, sSeq, sNil, sBrk, sCnt, bindS, sExpr, sRet, sRetN, sIf, sSet, sSetIdx, sAug, sAsg, tgName, tgTup, tgSeq, Py.R.bind, Py.R.of, eVar, eC, eBin, eUn, eChain, tBool, tTru, truth, tNot', tAnd', tOr', tYes', eAnd, eOr, eNot, eIf, aNil, aCons, eTup, eLst, eCallB, eCall, eSl, oNone, oSome, pSl, pAdd, pSub, pMul_ok, pDiv, pMod, pNeg, pIAdd, pCmp, pEq, pNe, eqD, pIsN, pNotN, isNon, pIn, pNotIn, inD, pIdx, pLen, lenD, pAbs, pMax2, pMin2, pInt, pStr, pTuple, pList, pIsi, isiD, eMeth, tyD, pAppend, pCount, pRfind, pSIndex, pJoin, seqOf, Option.map_some, Option.map_none, Option.bind_some, Option.bind_none, Option.bind_eq_bind, Option.pure_def, List.getElem?_cons_zero, List.getElem?_cons_succ, List.getElem?_nil, List.set_cons_zero, List.set_cons_succ, List.set_nil, List.map_cons, List.map_nil, List.cons_append, List.nil_append, List.length_cons, List.length_nil, List.length_map, reduceIte, Bool.not_true, Bool.not_false, Bool.false_eq_true, decide_true, decide_false, Bool.and_true, Bool.true_and, beq_self_eq_true, Nat.zero_add, Option.isSome_some, sizeLine_v, and_self, Nat.reduceAdd, Int.cast_ofNat_Int, Int.natCast_zero, Int.natCast_one, Int.reduceEq, Int.reduceLT, Int.reduceLE, Int.reduceNeg, Int.reduceAdd, Int.reduceMul, Int.reduceSub, Nat.reduceEqDiff, Nat.reduceLT, Nat.reduceLeDiff, sFor, iSeq, srcOf, iSrc, pRange1, pRange2, iEnum', srcEn]
    | str s => simp only [mkFn, sSeq, sNil, sBrk, sCnt, bindS, sExpr, sRet, sRetN, sIf, sSet, sSetIdx, sAug, sAsg, tgName, tgTup, tgSeq, Py.R.bind, Py.R.of, eVar, eC, eBin, eUn, eChain, tBool, tTru, truth, tNot', tAnd', tOr', tYes', eAnd, eOr, eNot, eIf, aNil, aCons, eTup, eLst, eCallB, eCall, eSl, oNone, oSome, pSl, pAdd, pSub, pMul_ok, pDiv, pMod, pNeg, pIAdd, pCmp, pEq, pNe, eqD, pIsN, pNotN, isNon, pIn, pNotIn, inD, pIdx, pLen, lenD, pAbs, pMax2, pMin2, pInt, pStr, pTuple, pList, pIsi, isiD, eMeth, tyD, pAppend, pCount, pRfind, pSIndex, pJoin, seqOf, Option.map_some, Option.map_none, Option.bind_some, Option.bind_none, Option.bind_eq_bind, Option.pure_def, List.getElem?_cons_zero, List.getElem?_cons_succ, List.getElem?_nil, List.set_cons_zero, List.set_cons_succ, List.set_nil, List.map_cons, List.map_nil, List.cons_append, List.nil_append, List.length_cons, List.length_nil, List.length_map, reduceIte, Bool.not_true, Bool.not_false, Bool.false_eq_true, decide_true, decide_false, Bool.and_true, Bool.true_and, beq_self_eq_true, Nat.zero_add, Option.isSome_some, sizeLine_v, and_self, Nat.reduceAdd, Int.cast_ofNat_Int, Int.natCast_zero, Int.natCast_one, Int.reduceEq, Int.reduceLT, Int.reduceLE, Int.reduceNeg, Int.reduceAdd, Int.reduceMul, Int.reduceSub, Nat.reduceEqDiff, Nat.reduceLT, Nat.reduceLeDiff, sFor, iSeq, srcOf, iSrc, pRange1, pRange2, iEnum', srcEn]
    | ref a => exact z.elim
    | adr a => exact z.elim
    | ty a => exact z.elim
    | tup ds =>
      obtain ⟨z1, z2⟩ := z
      have r : InR (ds.length : Int) := ⟨by omega, by omega⟩
      have tn : ((ds.length : Nat) : Int).toNat = ds.length := Int.toNat_natCast _
      simp only [mkFn, sSeq, sNil, sBrk, sCnt, bindS, sExpr, sRet, sRetN, sIf, sSet, sSetIdx, sAug, sAsg, tgName, tgTup, tgSeq, Py.R.bind, Py.R.of, eVar, eC, eBin, eUn, eChain, tBool, tTru, truth, tNot', tAnd', tOr', tYes', eAnd, eOr, eNot, eIf, aNil, aCons, eTup, eLst, eCallB, eCall, eSl, oNone, oSome, pSl, pAdd, pSub, pMul_ok, pDiv, pMod, pNeg, pIAdd, pCmp, pEq, pNe, eqD, pIsN, pNotN, isNon, pIn, pNotIn, inD, pIdx, pLen, lenD, pAbs, pMax2, pMin2, pInt, pStr, pTuple, pList, pIsi, isiD, eMeth, tyD, pAppend, pCount, pRfind, pSIndex, pJoin, seqOf, Option.map_some, Option.map_none, Option.bind_some, Option.bind_none, Option.bind_eq_bind, Option.pure_def, List.getElem?_cons_zero, List.getElem?_cons_succ, List.getElem?_nil, List.set_cons_zero, List.set_cons_succ, List.set_nil, List.map_cons, List.map_nil, List.cons_append, List.nil_append, List.length_cons, List.length_nil, List.length_map, reduceIte, Bool.not_true, Bool.not_false, Bool.false_eq_true, decide_true, decide_false, Bool.and_true, Bool.true_and, beq_self_eq_true, Nat.zero_add, Option.isSome_some, sizeLine_v, and_self, Nat.reduceAdd, Int.cast_ofNat_Int, Int.natCast_zero, Int.natCast_one, Int.reduceEq, Int.reduceLT, Int.reduceLE, Int.reduceNeg, Int.reduceAdd, Int.reduceMul, Int.reduceSub, Nat.reduceEqDiff, Nat.reduceLT, Nat.reduceLeDiff, sFor, iSeq, srcOf, iSrc, pRange1, pRange2, iEnum', srcEn, r, tn]
      generalize ho : forL _ _ _ _ _ _ = o
      obtain ⟨ρ', e⟩ : ∃ ρ', o = .nx ρ' h := by
        refine forL_run ho (fun _ ρ h' => ∃ x, ρ = [some (.tup ds), some (.tup ds), x] ∧ h' = h) (fun o => ∃ ρ', o = .nx ρ' h) ?_ ?_ ⟨none, rfl, rfl⟩
        · rintro i d ρ h' hi ⟨x, rfl, rfl⟩
          obtain ⟨hin, rfl⟩ := rgD_get hi
          refine ⟨trivial, [some (.tup ds), some (.tup ds), some (.int i)], by simp only [mkFn, sSeq, sNil, sBrk, sCnt, bindS, sExpr, sRet, sRetN, sIf, sSet, sSetIdx, sAug, sAsg, tgName, tgTup, tgSeq, Py.R.bind, Py.R.of, eVar, eC, eBin, eUn, eChain, tBool, tTru, truth, tNot', tAnd', tOr', tYes', eAnd, eOr, eNot, eIf, aNil, aCons, eTup, eLst, eCallB, eCall, eSl, oNone, oSome, pSl, pAdd, pSub, pMul_ok, pDiv, pMod, pNeg, pIAdd, pCmp, pEq, pNe, eqD, pIsN, pNotN, isNon, pIn, pNotIn, inD, pIdx, pLen, lenD, pAbs, pMax2, pMin2, pInt, pStr, pTuple, pList, pIsi, isiD, eMeth, tyD, pAppend, pCount, pRfind, pSIndex, pJoin, seqOf, Option.map_some, Option.map_none, Option.bind_some, Option.bind_none, Option.bind_eq_bind, Option.pure_def, List.getElem?_cons_zero, List.getElem?_cons_succ, List.getElem?_nil, List.set_cons_zero, List.set_cons_succ, List.set_nil, List.map_cons, List.map_nil, List.cons_append, List.nil_append, List.length_cons, List.length_nil, List.length_map, reduceIte, Bool.not_true, Bool.not_false, Bool.false_eq_true, decide_true, decide_false, Bool.and_true, Bool.true_and, beq_self_eq_true, Nat.zero_add, Option.isSome_some, sizeLine_v, and_self, Nat.reduceAdd, Int.cast_ofNat_Int, Int.natCast_zero, Int.natCast_one, Int.reduceEq, Int.reduceLT, Int.reduceLE, Int.reduceNeg, Int.reduceAdd, Int.reduceMul, Int.reduceSub, Nat.reduceEqDiff, Nat.reduceLT, Nat.reduceLeDiff, sFor, iSeq, srcOf, iSrc, pRange1, pRange2, iEnum', srcEn, Int.zero_add], ?_⟩
          have hat : L2.atI ds (i : Int) = some ds[i] := by rw [Py.atI_nat, List.getElem?_eq_getElem hin]
          have ih := same_ok n ds[i] h' (z2 _ (List.getElem_mem hin))
          simp only [mkFn, sSeq, sNil, sBrk, sCnt, bindS, sExpr, sRet, sRetN, sIf, sSet, sSetIdx, sAug, sAsg, tgName, tgTup, tgSeq, Py.R.bind, Py.R.of, eVar, eC, eBin, eUn, eChain, tBool, tTru, truth, tNot', tAnd', tOr', tYes', eAnd, eOr, eNot, eIf, aNil, aCons, eTup, eLst, eCallB, eCall, eSl, oNone, oSome, pSl, pAdd, pSub, pMul_ok, pDiv, pMod, pNeg, pIAdd, pCmp, pEq, pNe, eqD, pIsN, pNotN, isNon, pIn, pNotIn, inD, pIdx, pLen, lenD, pAbs, pMax2, pMin2, pInt, pStr, pTuple, pList, pIsi, isiD, eMeth, tyD, pAppend, pCount, pRfind, pSIndex, pJoin, seqOf, Option.map_some, Option.map_none, Option.bind_some, Option.bind_none, Option.bind_eq_bind, Option.pure_def, List.getElem?_cons_zero, List.getElem?_cons_succ, List.getElem?_nil, List.set_cons_zero, List.set_cons_succ, List.set_nil, List.map_cons, List.map_nil, List.cons_append, List.nil_append, List.length_cons, List.length_nil, List.length_map, reduceIte, Bool.not_true, Bool.not_false, Bool.false_eq_true, decide_true, decide_false, Bool.and_true, Bool.true_and, beq_self_eq_true, Nat.zero_add, Option.isSome_some, sizeLine_v, and_self, Nat.reduceAdd, Int.cast_ofNat_Int, Int.natCast_zero, Int.natCast_one, Int.reduceEq, Int.reduceLT, Int.reduceLE, Int.reduceNeg, Int.reduceAdd, Int.reduceMul, Int.reduceSub, Nat.reduceEqDiff, Nat.reduceLT, Nat.reduceLeDiff, sFor, iSeq, srcOf, iSrc, pRange1, pRange2, iEnum', srcEn, p__law_same_1, hat, ih]
          exact ⟨_, rfl, rfl⟩
        · rintro ρ h' ⟨x, rfl, rfl⟩
          exact ⟨trivial, _, rfl⟩
      subst e
      rfl
theorem plain_row (n : Nat) (e : Ev) : PlainD (n + 2) e.row := by
  unfold Ev.row
  refine ⟨by simp, fun d hd => ?_⟩
  simp only [List.mem_cons, List.not_mem_nil, or_false] at hd
  rcases hd with rfl | rfl | rfl <;> trivial
theorem plain_out {rows : List Ev} (h : rows.length < 1000000) (o : Option Nat) : PlainD 6 (outT rows o) := by
  cases o with
  | none =>
    refine ⟨by simp, fun d hd => ?_⟩
    simp only [List.mem_cons, List.not_mem_nil, or_false] at hd
    rcases hd with rfl | rfl | rfl
    · refine ⟨by simpa using h, fun d hd => ?_⟩
      obtain ⟨e, _, rfl⟩ := List.mem_map.mp hd
      exact plain_row 2 e
    · trivial
    · trivial
  | some m =>
    refine ⟨by simp, fun d hd => ?_⟩
    simp only [List.mem_cons, List.not_mem_nil, or_false] at hd
    rcases hd with rfl | rfl | rfl <;> trivial
end T75
set_option Elab.async false
set_option linter.all false
set_option maxRecDepth 100000
set_option maxHeartbeats 4000000
namespace T75
open PySem PySem.Spec PyProof.Rows L2 Py
/-! ### the entries that are no events -/
theorem bad_of {b : Nat} {d : D} (h : ∀ h, fn_is_event [d] h = .ok (.bl false) h) : BadE b d := fun h' => .inl (h h')
theorem odd1 (b : Nat) : BadE b (.tup [.int 401, .str [97, 115, 107], .int 0]) := bad_of fun h => by
  unfold fn_is_event b_is_event
  simp only [mkFn, sSeq, sNil, sBrk, sCnt, bindS, sExpr, sRet, sRetN, sIf, sSet, sSetIdx, sAug, sAsg, tgName, tgTup, tgSeq, Py.R.bind, Py.R.of, eVar, eC, eBin, eUn, eChain, tBool, tTru, truth, tNot', tAnd', tOr', tYes', eAnd, eOr, eNot, eIf, aNil, aCons, eTup, eLst, eCallB, eCall, eSl, oNone, oSome, pSl, pAdd, pSub, pMul_ok, pDiv, pMod, pNeg, pIAdd, pCmp, pEq, pNe, eqD, pIsN, pNotN, isNon, pIn, pNotIn, inD, pIdx, pLen, lenD, pAbs, pMax2, pMin2, pInt, pStr, pTuple, pList, pIsi, isiD, eMeth, tyD, pAppend, pCount, pRfind, pSIndex, pJoin, seqOf, Option.map_some, Option.map_none, Option.bind_some, Option.bind_none, Option.bind_eq_bind, Option.pure_def, List.getElem?_cons_zero, List.getElem?_cons_succ, List.getElem?_nil, List.set_cons_zero, List.set_cons_succ, List.set_nil, List.map_cons, List.map_nil, List.cons_append, List.nil_append, List.length_cons, List.length_nil, List.length_map, reduceIte, Bool.not_true, Bool.not_false, Bool.false_eq_true, decide_true, decide_false, Bool.and_true, Bool.true_and, beq_self_eq_true, Nat.zero_add, Option.isSome_some, sizeLine_v, and_self, Nat.reduceAdd, Int.cast_ofNat_Int, Int.natCast_zero, Int.natCast_one, Int.reduceEq, Int.reduceLT, Int.reduceLE, Int.reduceNeg, Int.reduceAdd, Int.reduceMul, Int.reduceSub, Nat.reduceEqDiff, Nat.reduceLT, Nat.reduceLeDiff, sFor, iSeq, srcOf, iSrc, pRange1, pRange2, iEnum', srcEn, int_in, Bool.and_false, Bool.false_and]
theorem odd2 (b : Nat) : BadE b (.tup [.int 400, .str [97, 115, 107], .int 40]) := bad_of fun h => by
  unfold fn_is_event b_is_event
  simp only [mkFn, sSeq, sNil, sBrk, sCnt, bindS, sExpr, sRet, sRetN, sIf, sSet, sSetIdx, sAug, sAsg, tgName, tgTup, tgSeq, Py.R.bind, Py.R.of, eVar, eC, eBin, eUn, eChain, tBool, tTru, truth, tNot', tAnd', tOr', tYes', eAnd, eOr, eNot, eIf, aNil, aCons, eTup, eLst, eCallB, eCall, eSl, oNone, oSome, pSl, pAdd, pSub, pMul_ok, pDiv, pMod, pNeg, pIAdd, pCmp, pEq, pNe, eqD, pIsN, pNotN, isNon, pIn, pNotIn, inD, pIdx, pLen, lenD, pAbs, pMax2, pMin2, pInt, pStr, pTuple, pList, pIsi, isiD, eMeth, tyD, pAppend, pCount, pRfind, pSIndex, pJoin, seqOf, Option.map_some, Option.map_none, Option.bind_some, Option.bind_none, Option.bind_eq_bind, Option.pure_def, List.getElem?_cons_zero, List.getElem?_cons_succ, List.getElem?_nil, List.set_cons_zero, List.set_cons_succ, List.set_nil, List.map_cons, List.map_nil, List.cons_append, List.nil_append, List.length_cons, List.length_nil, List.length_map, reduceIte, Bool.not_true, Bool.not_false, Bool.false_eq_true, decide_true, decide_false, Bool.and_true, Bool.true_and, beq_self_eq_true, Nat.zero_add, Option.isSome_some, sizeLine_v, and_self, Nat.reduceAdd, Int.cast_ofNat_Int, Int.natCast_zero, Int.natCast_one, Int.reduceEq, Int.reduceLT, Int.reduceLE, Int.reduceNeg, Int.reduceAdd, Int.reduceMul, Int.reduceSub, Nat.reduceEqDiff, Nat.reduceLT, Nat.reduceLeDiff, sFor, iSeq, srcOf, iSrc, pRange1, pRange2, iEnum', srcEn, int_in, Bool.and_false, Bool.false_and, flatD, eqF, List.all_cons, List.all_nil, List.any_cons, List.any_nil, List.cons_beq_cons, Nat.reduceBEq, Bool.or_false, Bool.or_true, Bool.true_or, Bool.false_or]
theorem odd3 (b : Nat) : BadE b (.tup [.int 400, .str [103, 105, 118, 101, 32, 117, 112], .int 0]) := bad_of fun h => by
  unfold fn_is_event b_is_event
  simp only [mkFn, sSeq, sNil, sBrk, sCnt, bindS, sExpr, sRet, sRetN, sIf, sSet, sSetIdx, sAug, sAsg, tgName, tgTup, tgSeq, Py.R.bind, Py.R.of, eVar, eC, eBin, eUn, eChain, tBool, tTru, truth, tNot', tAnd', tOr', tYes', eAnd, eOr, eNot, eIf, aNil, aCons, eTup, eLst, eCallB, eCall, eSl, oNone, oSome, pSl, pAdd, pSub, pMul_ok, pDiv, pMod, pNeg, pIAdd, pCmp, pEq, pNe, eqD, pIsN, pNotN, isNon, pIn, pNotIn, inD, pIdx, pLen, lenD, pAbs, pMax2, pMin2, pInt, pStr, pTuple, pList, pIsi, isiD, eMeth, tyD, pAppend, pCount, pRfind, pSIndex, pJoin, seqOf, Option.map_some, Option.map_none, Option.bind_some, Option.bind_none, Option.bind_eq_bind, Option.pure_def, List.getElem?_cons_zero, List.getElem?_cons_succ, List.getElem?_nil, List.set_cons_zero, List.set_cons_succ, List.set_nil, List.map_cons, List.map_nil, List.cons_append, List.nil_append, List.length_cons, List.length_nil, List.length_map, reduceIte, Bool.not_true, Bool.not_false, Bool.false_eq_true, decide_true, decide_false, Bool.and_true, Bool.true_and, beq_self_eq_true, Nat.zero_add, Option.isSome_some, sizeLine_v, and_self, Nat.reduceAdd, Int.cast_ofNat_Int, Int.natCast_zero, Int.natCast_one, Int.reduceEq, Int.reduceLT, Int.reduceLE, Int.reduceNeg, Int.reduceAdd, Int.reduceMul, Int.reduceSub, Nat.reduceEqDiff, Nat.reduceLT, Nat.reduceLeDiff, sFor, iSeq, srcOf, iSrc, pRange1, pRange2, iEnum', srcEn, int_in, Bool.and_false, Bool.false_and, flatD, eqF, List.all_cons, List.all_nil, List.any_cons, List.any_nil, List.cons_beq_cons, Nat.reduceBEq, Bool.or_false, Bool.or_true, Bool.true_or, Bool.false_or]
theorem odd4 (b : Nat) : BadE b (.tup [.int 400, .str [97, 114, 105, 118, 101], .int 1]) := bad_of fun h => by
  unfold fn_is_event b_is_event
  simp only [mkFn, sSeq, sNil, sBrk, sCnt, bindS, sExpr, sRet, sRetN, sIf, sSet, sSetIdx, sAug, sAsg, tgName, tgTup, tgSeq, Py.R.bind, Py.R.of, eVar, eC, eBin, eUn, eChain, tBool, tTru, truth, tNot', tAnd', tOr', tYes', eAnd, eOr, eNot, eIf, aNil, aCons, eTup, eLst, eCallB, eCall, eSl, oNone, oSome, pSl, pAdd, pSub, pMul_ok, pDiv, pMod, pNeg, pIAdd, pCmp, pEq, pNe, eqD, pIsN, pNotN, isNon, pIn, pNotIn, inD, pIdx, pLen, lenD, pAbs, pMax2, pMin2, pInt, pStr, pTuple, pList, pIsi, isiD, eMeth, tyD, pAppend, pCount, pRfind, pSIndex, pJoin, seqOf, Option.map_some, Option.map_none, Option.bind_some, Option.bind_none, Option.bind_eq_bind, Option.pure_def, List.getElem?_cons_zero, List.getElem?_cons_succ, List.getElem?_nil, List.set_cons_zero, List.set_cons_succ, List.set_nil, List.map_cons, List.map_nil, List.cons_append, List.nil_append, List.length_cons, List.length_nil, List.length_map, reduceIte, Bool.not_true, Bool.not_false, Bool.false_eq_true, decide_true, decide_false, Bool.and_true, Bool.true_and, beq_self_eq_true, Nat.zero_add, Option.isSome_some, sizeLine_v, and_self, Nat.reduceAdd, Int.cast_ofNat_Int, Int.natCast_zero, Int.natCast_one, Int.reduceEq, Int.reduceLT, Int.reduceLE, Int.reduceNeg, Int.reduceAdd, Int.reduceMul, Int.reduceSub, Nat.reduceEqDiff, Nat.reduceLT, Nat.reduceLeDiff, sFor, iSeq, srcOf, iSrc, pRange1, pRange2, iEnum', srcEn, int_in, Bool.and_false, Bool.false_and, flatD, eqF, List.all_cons, List.all_nil, List.any_cons, List.any_nil, List.cons_beq_cons, Nat.reduceBEq, Bool.or_false, Bool.or_true, Bool.true_or, Bool.false_or]
theorem odd5 (b : Nat) : BadE b (.tup [.int 400, .str [100, 111]]) := bad_of fun h => by
  unfold fn_is_event b_is_event
  simp only [mkFn, sSeq, sNil, sBrk, sCnt, bindS, sExpr, sRet, sRetN, sIf, sSet, sSetIdx, sAug, sAsg, tgName, tgTup, tgSeq, Py.R.bind, Py.R.of, eVar, eC, eBin, eUn, eChain, tBool, tTru, truth, tNot', tAnd', tOr', tYes', eAnd, eOr, eNot, eIf, aNil, aCons, eTup, eLst, eCallB, eCall, eSl, oNone, oSome, pSl, pAdd, pSub, pMul_ok, pDiv, pMod, pNeg, pIAdd, pCmp, pEq, pNe, eqD, pIsN, pNotN, isNon, pIn, pNotIn, inD, pIdx, pLen, lenD, pAbs, pMax2, pMin2, pInt, pStr, pTuple, pList, pIsi, isiD, eMeth, tyD, pAppend, pCount, pRfind, pSIndex, pJoin, seqOf, Option.map_some, Option.map_none, Option.bind_some, Option.bind_none, Option.bind_eq_bind, Option.pure_def, List.getElem?_cons_zero, List.getElem?_cons_succ, List.getElem?_nil, List.set_cons_zero, List.set_cons_succ, List.set_nil, List.map_cons, List.map_nil, List.cons_append, List.nil_append, List.length_cons, List.length_nil, List.length_map, reduceIte, Bool.not_true, Bool.not_false, Bool.false_eq_true, decide_true, decide_false, Bool.and_true, Bool.true_and, beq_self_eq_true, Nat.zero_add, Option.isSome_some, sizeLine_v, and_self, Nat.reduceAdd, Int.cast_ofNat_Int, Int.natCast_zero, Int.natCast_one, Int.reduceEq, Int.reduceLT, Int.reduceLE, Int.reduceNeg, Int.reduceAdd, Int.reduceMul, Int.reduceSub, Nat.reduceEqDiff, Nat.reduceLT, Nat.reduceLeDiff, sFor, iSeq, srcOf, iSrc, pRange1, pRange2, iEnum', srcEn]
theorem odd6 (b : Nat) : BadE b .non := bad_of fun h => by
  unfold fn_is_event b_is_event
  simp only [mkFn, sSeq, sNil, sBrk, sCnt, bindS, sExpr, sRet, sRetN, sIf, sSet, sSetIdx, sAug, sAsg, tgName, tgTup, tgSeq, Py.R.bind, Py.R.of, eVar, eC, eBin, eUn, eChain, tBool, tTru, truth, tNot', tAnd', tOr', tYes', eAnd, eOr, eNot, eIf, aNil, aCons, eTup, eLst, eCallB, eCall, eSl, oNone, oSome, pSl, pAdd, pSub, pMul_ok, pDiv, pMod, pNeg, pIAdd, pCmp, pEq, pNe, eqD, pIsN, pNotN, isNon, pIn, pNotIn, inD, pIdx, pLen, lenD, pAbs, pMax2, pMin2, pInt, pStr, pTuple, pList, pIsi, isiD, eMeth, tyD, pAppend, pCount, pRfind, pSIndex, pJoin, seqOf, Option.map_some, Option.map_none, Option.bind_some, Option.bind_none, Option.bind_eq_bind, Option.pure_def, List.getElem?_cons_zero, List.getElem?_cons_succ, List.getElem?_nil, List.set_cons_zero, List.set_cons_succ, List.set_nil, List.map_cons, List.map_nil, List.cons_append, List.nil_append, List.length_cons, List.length_nil, List.length_map, reduceIte, Bool.not_true, Bool.not_false, Bool.false_eq_true, decide_true, decide_false, Bool.and_true, Bool.true_and, beq_self_eq_true, Nat.zero_add, Option.isSome_some, sizeLine_v, and_self, Nat.reduceAdd, Int.cast_ofNat_Int, Int.natCast_zero, Int.natCast_one, Int.reduceEq, Int.reduceLT, Int.reduceLE, Int.reduceNeg, Int.reduceAdd, Int.reduceMul, Int.reduceSub, Nat.reduceEqDiff, Nat.reduceLT, Nat.reduceLeDiff, sFor, iSeq, srcOf, iSrc, pRange1, pRange2, iEnum', srcEn]
theorem odd7 (b : Nat) : BadE b (.tup [.bl true, .str [100, 111], .int 1]) := bad_of fun h => by
  unfold fn_is_event b_is_event
  simp only [mkFn, sSeq, sNil, sBrk, sCnt, bindS, sExpr, sRet, sRetN, sIf, sSet, sSetIdx, sAug, sAsg, tgName, tgTup, tgSeq, Py.R.bind, Py.R.of, eVar, eC, eBin, eUn, eChain, tBool, tTru, truth, tNot', tAnd', tOr', tYes', eAnd, eOr, eNot, eIf, aNil, aCons, eTup, eLst, eCallB, eCall, eSl, oNone, oSome, pSl, pAdd, pSub, pMul_ok, pDiv, pMod, pNeg, pIAdd, pCmp, pEq, pNe, eqD, pIsN, pNotN, isNon, pIn, pNotIn, inD, pIdx, pLen, lenD, pAbs, pMax2, pMin2, pInt, pStr, pTuple, pList, pIsi, isiD, eMeth, tyD, pAppend, pCount, pRfind, pSIndex, pJoin, seqOf, Option.map_some, Option.map_none, Option.bind_some, Option.bind_none, Option.bind_eq_bind, Option.pure_def, List.getElem?_cons_zero, List.getElem?_cons_succ, List.getElem?_nil, List.set_cons_zero, List.set_cons_succ, List.set_nil, List.map_cons, List.map_nil, List.cons_append, List.nil_append, List.length_cons, List.length_nil, List.length_map, reduceIte, Bool.not_true, Bool.not_false, Bool.false_eq_true, decide_true, decide_false, Bool.and_true, Bool.true_and, beq_self_eq_true, Nat.zero_add, Option.isSome_some, sizeLine_v, and_self, Nat.reduceAdd, Int.cast_ofNat_Int, Int.natCast_zero, Int.natCast_one, Int.reduceEq, Int.reduceLT, Int.reduceLE, Int.reduceNeg, Int.reduceAdd, Int.reduceMul, Int.reduceSub, Nat.reduceEqDiff, Nat.reduceLT, Nat.reduceLeDiff, sFor, iSeq, srcOf, iSrc, pRange1, pRange2, iEnum', srcEn, int_in_bl]
theorem odd8 (b : Nat) : BadE b (.tup [.int 400, .str [104, 101, 97, 114], .bl true]) := bad_of fun h => by
  unfold fn_is_event b_is_event
  simp only [mkFn, sSeq, sNil, sBrk, sCnt, bindS, sExpr, sRet, sRetN, sIf, sSet, sSetIdx, sAug, sAsg, tgName, tgTup, tgSeq, Py.R.bind, Py.R.of, eVar, eC, eBin, eUn, eChain, tBool, tTru, truth, tNot', tAnd', tOr', tYes', eAnd, eOr, eNot, eIf, aNil, aCons, eTup, eLst, eCallB, eCall, eSl, oNone, oSome, pSl, pAdd, pSub, pMul_ok, pDiv, pMod, pNeg, pIAdd, pCmp, pEq, pNe, eqD, pIsN, pNotN, isNon, pIn, pNotIn, inD, pIdx, pLen, lenD, pAbs, pMax2, pMin2, pInt, pStr, pTuple, pList, pIsi, isiD, eMeth, tyD, pAppend, pCount, pRfind, pSIndex, pJoin, seqOf, Option.map_some, Option.map_none, Option.bind_some, Option.bind_none, Option.bind_eq_bind, Option.pure_def, List.getElem?_cons_zero, List.getElem?_cons_succ, List.getElem?_nil, List.set_cons_zero, List.set_cons_succ, List.set_nil, List.map_cons, List.map_nil, List.cons_append, List.nil_append, List.length_cons, List.length_nil, List.length_map, reduceIte, Bool.not_true, Bool.not_false, Bool.false_eq_true, decide_true, decide_false, Bool.and_true, Bool.true_and, beq_self_eq_true, Nat.zero_add, Option.isSome_some, sizeLine_v, and_self, Nat.reduceAdd, Int.cast_ofNat_Int, Int.natCast_zero, Int.natCast_one, Int.reduceEq, Int.reduceLT, Int.reduceLE, Int.reduceNeg, Int.reduceAdd, Int.reduceMul, Int.reduceSub, Nat.reduceEqDiff, Nat.reduceLT, Nat.reduceLeDiff, sFor, iSeq, srcOf, iSrc, pRange1, pRange2, iEnum', srcEn, int_in, int_in_bl, Bool.and_false, Bool.false_and, flatD, eqF, List.all_cons, List.all_nil, List.any_cons, List.any_nil, List.cons_beq_cons, Nat.reduceBEq, Bool.or_false, Bool.or_true, Bool.true_or, Bool.false_or]
theorem odd9 (b : Nat) : BadE b (.tup [.int 400, .str [99, 114, 97, 115, 104], .int 0]) := bad_of fun h => by
  unfold fn_is_event b_is_event
  simp only [mkFn, sSeq, sNil, sBrk, sCnt, bindS, sExpr, sRet, sRetN, sIf, sSet, sSetIdx, sAug, sAsg, tgName, tgTup, tgSeq, Py.R.bind, Py.R.of, eVar, eC, eBin, eUn, eChain, tBool, tTru, truth, tNot', tAnd', tOr', tYes', eAnd, eOr, eNot, eIf, aNil, aCons, eTup, eLst, eCallB, eCall, eSl, oNone, oSome, pSl, pAdd, pSub, pMul_ok, pDiv, pMod, pNeg, pIAdd, pCmp, pEq, pNe, eqD, pIsN, pNotN, isNon, pIn, pNotIn, inD, pIdx, pLen, lenD, pAbs, pMax2, pMin2, pInt, pStr, pTuple, pList, pIsi, isiD, eMeth, tyD, pAppend, pCount, pRfind, pSIndex, pJoin, seqOf, Option.map_some, Option.map_none, Option.bind_some, Option.bind_none, Option.bind_eq_bind, Option.pure_def, List.getElem?_cons_zero, List.getElem?_cons_succ, List.getElem?_nil, List.set_cons_zero, List.set_cons_succ, List.set_nil, List.map_cons, List.map_nil, List.cons_append, List.nil_append, List.length_cons, List.length_nil, List.length_map, reduceIte, Bool.not_true, Bool.not_false, Bool.false_eq_true, decide_true, decide_false, Bool.and_true, Bool.true_and, beq_self_eq_true, Nat.zero_add, Option.isSome_some, sizeLine_v, and_self, Nat.reduceAdd, Int.cast_ofNat_Int, Int.natCast_zero, Int.natCast_one, Int.reduceEq, Int.reduceLT, Int.reduceLE, Int.reduceNeg, Int.reduceAdd, Int.reduceMul, Int.reduceSub, Nat.reduceEqDiff, Nat.reduceLT, Nat.reduceLeDiff, sFor, iSeq, srcOf, iSrc, pRange1, pRange2, iEnum', srcEn, int_in, Bool.and_false, Bool.false_and, flatD, eqF, List.all_cons, List.all_nil, List.any_cons, List.any_nil, List.cons_beq_cons, Nat.reduceBEq, Bool.or_false, Bool.or_true, Bool.true_or, Bool.false_or]
theorem odd10 (b : Nat) : BadE b (.tup [.int 400, .str [97, 115, 107], .int (-1)]) := bad_of fun h => by
  unfold fn_is_event b_is_event
  simp only [mkFn, sSeq, sNil, sBrk, sCnt, bindS, sExpr, sRet, sRetN, sIf, sSet, sSetIdx, sAug, sAsg, tgName, tgTup, tgSeq, Py.R.bind, Py.R.of, eVar, eC, eBin, eUn, eChain, tBool, tTru, truth, tNot', tAnd', tOr', tYes', eAnd, eOr, eNot, eIf, aNil, aCons, eTup, eLst, eCallB, eCall, eSl, oNone, oSome, pSl, pAdd, pSub, pMul_ok, pDiv, pMod, pNeg, pIAdd, pCmp, pEq, pNe, eqD, pIsN, pNotN, isNon, pIn, pNotIn, inD, pIdx, pLen, lenD, pAbs, pMax2, pMin2, pInt, pStr, pTuple, pList, pIsi, isiD, eMeth, tyD, pAppend, pCount, pRfind, pSIndex, pJoin, seqOf, Option.map_some, Option.map_none, Option.bind_some, Option.bind_none, Option.bind_eq_bind, Option.pure_def, List.getElem?_cons_zero, List.getElem?_cons_succ, List.getElem?_nil, List.set_cons_zero, List.set_cons_succ, List.set_nil, List.map_cons, List.map_nil, List.cons_append, List.nil_append, List.length_cons, List.length_nil, List.length_map, reduceIte, Bool.not_true, Bool.not_false, Bool.false_eq_true, decide_true, decide_false, Bool.and_true, Bool.true_and, beq_self_eq_true, Nat.zero_add, Option.isSome_some, sizeLine_v, and_self, Nat.reduceAdd, Int.cast_ofNat_Int, Int.natCast_zero, Int.natCast_one, Int.reduceEq, Int.reduceLT, Int.reduceLE, Int.reduceNeg, Int.reduceAdd, Int.reduceMul, Int.reduceSub, Nat.reduceEqDiff, Nat.reduceLT, Nat.reduceLeDiff, sFor, iSeq, srcOf, iSrc, pRange1, pRange2, iEnum', srcEn, int_in, Bool.and_false, Bool.false_and, flatD, eqF, List.all_cons, List.all_nil, List.any_cons, List.any_nil, List.cons_beq_cons, Nat.reduceBEq, Bool.or_false, Bool.or_true, Bool.true_or, Bool.false_or]
theorem odd11 (b : Nat) : BadE b (.int 400) := bad_of fun h => by
  unfold fn_is_event b_is_event
  simp only [mkFn, sSeq, sNil, sBrk, sCnt, bindS, sExpr, sRet, sRetN, sIf, sSet, sSetIdx, sAug, sAsg, tgName, tgTup, tgSeq, Py.R.bind, Py.R.of, eVar, eC, eBin, eUn, eChain, tBool, tTru, truth, tNot', tAnd', tOr', tYes', eAnd, eOr, eNot, eIf, aNil, aCons, eTup, eLst, eCallB, eCall, eSl, oNone, oSome, pSl, pAdd, pSub, pMul_ok, pDiv, pMod, pNeg, pIAdd, pCmp, pEq, pNe, eqD, pIsN, pNotN, isNon, pIn, pNotIn, inD, pIdx, pLen, lenD, pAbs, pMax2, pMin2, pInt, pStr, pTuple, pList, pIsi, isiD, eMeth, tyD, pAppend, pCount, pRfind, pSIndex, pJoin, seqOf, Option.map_some, Option.map_none, Option.bind_some, Option.bind_none, Option.bind_eq_bind, Option.pure_def, List.getElem?_cons_zero, List.getElem?_cons_succ, List.getElem?_nil, List.set_cons_zero, List.set_cons_succ, List.set_nil, List.map_cons, List.map_nil, List.cons_append, List.nil_append, List.length_cons, List.length_nil, List.length_map, reduceIte, Bool.not_true, Bool.not_false, Bool.false_eq_true, decide_true, decide_false, Bool.and_true, Bool.true_and, beq_self_eq_true, Nat.zero_add, Option.isSome_some, sizeLine_v, and_self, Nat.reduceAdd, Int.cast_ofNat_Int, Int.natCast_zero, Int.natCast_one, Int.reduceEq, Int.reduceLT, Int.reduceLE, Int.reduceNeg, Int.reduceAdd, Int.reduceMul, Int.reduceSub, Nat.reduceEqDiff, Nat.reduceLT, Nat.reduceLeDiff, sFor, iSeq, srcOf, iSrc, pRange1, pRange2, iEnum', srcEn]
theorem odd12 {b : Nat} (hb : 0 < b) (h4 : b ≤ 400) : BadE b (.tup [.int ((b : Int) - 1), .str [97, 115, 107], .int 0]) := fun h => by
  right
  have v : Ev.valid ⟨b - 1, 0, some 0⟩ := ⟨by dsimp only; omega, .inl ⟨by dsimp only; omega, 0, rfl, by omega⟩⟩
  have e := isev_ok v h
  have : (((b - 1 : Nat) : Int)) = (b : Int) - 1 := by omega
  unfold Ev.row Ev.num at e
  dsimp only at e
  rw [this] at e
  exact ⟨_, _, _, rfl, e, by omega⟩
def odds : List D := [.tup [.int 401, .str [97, 115, 107], .int 0], .tup [.int 400, .str [97, 115, 107], .int 40], .tup [.int 400, .str [103, 105, 118, 101, 32, 117, 112], .int 0], .tup [.int 400, .str [97, 114, 105, 118, 101], .int 1], .tup [.int 400, .str [100, 111]], .non, .tup [.bl true, .str [100, 111], .int 1], .tup [.int 400, .str [104, 101, 97, 114], .bl true], .tup [.int 400, .str [99, 114, 97, 115, 104], .int 0], .tup [.int 400, .str [97, 115, 107], .int (-1)], .int 400]
theorem odds_bad (b : Nat) : ∀ d ∈ odds, BadE b d := by
  intro d hd
  unfold odds at hd
  simp only [List.mem_cons, List.not_mem_nil, or_false] at hd
  rcases hd with rfl | rfl | rfl | rfl | rfl | rfl | rfl | rfl | rfl | rfl | rfl
  · exact odd1 b
  · exact odd2 b
  · exact odd3 b
  · exact odd4 b
  · exact odd5 b
  · exact odd6 b
  · exact odd7 b
  · exact odd8 b
  · exact odd9 b
  · exact odd10 b
  · exact odd11 b
/-! ### the law -/
theorem reads_self {E : List Ev} (hE : Asc 0 E) : Reads 0 (lns E) E none := by
  obtain ⟨rows, o, h⟩ := reads_ex _ 0 (lns E) (Nat.le_refl _)
  obtain ⟨rfl, rfl⟩ := reads_text hE h
  exact h
structure LawSt (ns : List Int) (E : List Ev) (r l : Nat) (h : HH) : Prop where
  bag : Bag 2 h
  scr : h[0]? = some (.scr (ns.map D.int))
  ev : h[r]? = some (.lst (E.map Ev.row))
  li : h[l]? = some (.lst (E.map fun e => D.str e.line))
theorem LawSt.pre {ns : List Int} {E : List Ev} {r l : Nat} {h h' : HH} (s : LawSt ns E r l h) (p : h <+: h') : LawSt ns E r l h' := by
  obtain ⟨t, rfl⟩ := p
  exact ⟨s.bag.app, get_app_old s.scr, get_app_old s.ev, get_app_old s.li⟩
theorem LawSt.ext {ns : List Int} {E : List Ev} {r l : Nat} {h h' : HH} (s : LawSt ns E r l h) (b : Bag 2 h') (p : Ext 2 h h') (hr : r ≠ 2) (hl : l ≠ 2) : LawSt ns E r l h' :=
  ⟨b, p.get (by decide) s.scr, p.get hr s.ev, p.get hl s.li⟩
theorem law_turn {ns : List Int} {E : List Ev} (hE : Asc 0 E) (hl : E.length ≤ 300) {r l : Nat} (hr2 : r ≠ 2) (hl2 : l ≠ 2) {h : HH} (s : LawSt ns E r l h) (a b c : D) (x y z u v w : Option D) :
    ∃ h' x' y', LawSt ns E r l h' ∧ p_law_2 [some (.ref 0), some (.ref 2), some (.ref r), some (.ref l), x, some (.str (lns E)), y, z, u, v, w, none, none] h = .nx [some (.ref 0), some (.ref 2), some (.ref r), some (.ref l), x, some (.str (lns E)), y, z, x', y', w, none, none] h' := by
  have le := lns_len hE
  obtain ⟨p, h1, a1, a2, B1, x1, l1, e1⟩ := take_ok (many := (((lns E).length + 1 : Nat) : Int)) s.bag s.scr (by decide) (by omega) (by omega)
  obtain ⟨p', rfl⟩ := int_of a1
  have s1 := s.ext B1 x1 hr2 hl2
  obtain ⟨t, h2, B2, x2, lt, ht, e2⟩ := change_ok B1 s1.scr (by decide) (T := lns E) (by omega) (p := p')
  have s2 := s1.ext B2 x2 hr2 hl2
  obtain ⟨rows, o, rds⟩ := reads_ex _ 0 t (Nat.le_refl _)
  obtain ⟨h3, p3, e3⟩ := told_ok (by omega) rds h2
  have s3 := s2.pre p3
  obtain ⟨h4, p4, e4⟩ := due_ok hE hl lt (p := p') (itemsL_lst s3.ev) (itemsL_lst s3.li) (fun k c => changed_ok hE c ht) rds
  have s4 := s3.pre p4
  have hrows : rows.length < 1000000 := by
    have := count_valid (reads_shape rds).1
    obtain ⟨s', q1, _⟩ := (reads_shape rds).2
    have h3 : (lns rows).length ≤ t.length := by rw [q1]; simp
    have := List.count_le_length (a := 10) (l := lns rows)
    omega
  have e5 := same_ok 6 (outT rows o) h4 (plain_out hrows o)
  have tl : (lns E).length ≤ 16777216 := by omega
  refine ⟨h4, some (.int p'), some (.str t), s4, ?_⟩
  simp only [mkFn, sSeq, sNil, sBrk, sCnt, bindS, sExpr, sRet, sRetN, sIf, sSet, sSetIdx, sAug, sAsg, tgName, tgTup, tgSeq, Py.R.bind, Py.R.of, eVar, eC, eBin, eUn, eChain, tBool, tTru, truth, tNot', tAnd', tOr', tYes', eAnd, eOr, eNot, eIf, aNil, aCons, eTup, eLst, eCallB, eCall, eSl, oNone, oSome, pSl, pAdd, pSub, pMul_ok, pDiv, pMod, pNeg, pIAdd, pCmp, pEq, pNe, eqD, pIsN, pNotN, isNon, pIn, pNotIn, inD, pIdx, pLen, lenD, pAbs, pMax2, pMin2, pInt, pStr, pTuple, pList, pIsi, isiD, eMeth, tyD, pAppend, pCount, pRfind, pSIndex, pJoin, seqOf, Option.map_some, Option.map_none, Option.bind_some, Option.bind_none, Option.bind_eq_bind, Option.pure_def, List.getElem?_cons_zero, List.getElem?_cons_succ, List.getElem?_nil, List.set_cons_zero, List.set_cons_succ, List.set_nil, List.map_cons, List.map_nil, List.cons_append, List.nil_append, List.length_cons, List.length_nil, List.length_map, reduceIte, Bool.not_true, Bool.not_false, Bool.false_eq_true, decide_true, decide_false, Bool.and_true, Bool.true_and, beq_self_eq_true, Nat.zero_add, Option.isSome_some, sizeLine_v, and_self, Nat.reduceAdd, Int.cast_ofNat_Int, Int.natCast_zero, Int.natCast_one, Int.reduceEq, Int.reduceLT, Int.reduceLE, Int.reduceNeg, Int.reduceAdd, Int.reduceMul, Int.reduceSub, Nat.reduceEqDiff, Nat.reduceLT, Nat.reduceLeDiff, sFor, iSeq, srcOf, iSrc, pRange1, pRange2, iEnum', srcEn, p_law_2, tl, nat_add1, e1, e2, e3, e4, e5]
theorem odd_tail {ns : List Int} {E : List Ev} (hE : Asc 0 E) {r l a n : Nat} {h : HH} (S : LawSt ns E r l h) {os : List D} (hn : itemsL h n = some os) (n2 : n ≠ 2) (hos : ∀ d ∈ os, BadE (lastT 0 (E.take a)) d) (o0 : 0 < os.length) (o1 : os.length ≤ 100) (ha : a < E.length) :
    ∃ j h9 d, fn__law_take [.ref 2, .ref 0, .int os.length] h = .ok (.int j) h9 ∧ itemsL h9 n = some os ∧ L2.atI os j = some d ∧ ∀ w, fn__law_refused [.tup ((E.take a).map Ev.row ++ [d] ++ (E.drop (a + 1)).map Ev.row), .bl w] h9 = .ok (.int a) h9 := by
  obtain ⟨j, h9, a1, a2, B, x9, l9, e9⟩ := take_ok (many := (os.length : Int)) S.bag S.scr (by decide) (by omega) (by omega)
  have hj : j.toNat < os.length := by omega
  refine ⟨j, h9, os[j.toNat], e9, ?_, atI_at a1 (List.getElem?_eq_getElem hj), fun w => ?_⟩
  · unfold itemsL at hn ⊢
    cases q : h[n]? with
    | none => rw [q] at hn; cases hn
    | some c => rw [q] at hn; rw [x9.get n2 q]; exact hn
  · have := refused_ok (E := E.take a) (d := os[j.toNat]) (post := (E.drop (a + 1)).map Ev.row) (asc_take hE) (hos _ (List.getElem_mem hj)) w h9
    rw [List.length_take, Nat.min_eq_left (by omega)] at this
    rw [List.append_assoc]
    exact this
theorem pMul_ref {a : Nat} {k : Int} {h : HH} {xs : List D} (e : lstOf h a = some xs) (f : FitK k xs.length) : pMul (.ref a) (.int k) h = some (.ref h.length, h ++ [.lst (List.replicate k.toNat xs).flatten]) := by
  unfold pMul
  dsimp only
  rw [e]
  exact if_pos f
theorem law_true (ns : List Int) (hn : ns.length ≤ 63) : ∃ h', fn_law [.ref 0] [.scr (ns.map D.int)] = .ok (.bl true) h' := by
  obtain ⟨h1, l1, B1, s1, e1⟩ := bag_ok ns
  obtain ⟨E, h2, r, hE, hpos, hlen, B2, x2, hr, ev2, e2⟩ := events_ok B1 s1 (by decide)
  have le := lns_len hE
  have sc2 := x2.get (by decide) s1
  have hr2 : r ≠ 2 := by omega
  have hl2 : h2.length ≠ 2 := by
    have := x2.1
    omega
  have i2 : itemsL h2 r = some (E.map Ev.row) := itemsL_lst ev2
  have cm := compL_new (gd := fun h' => itemsL h' r = some (E.map Ev.row)) (g := tgName 4) (e := p_law_1) (ρ := [some (.ref 0), some (.ref 2), some (.ref r), none, none, none, none, none, none, none, none, none, none]) (h := h2) Ev.row (fun e => .str e.line) E (fun e he h' => by
    refine ⟨[some (.ref 0), some (.ref 2), some (.ref r), none, some e.row, none, none, none, none, none, none, none, none], rfl, ?_⟩
    simp only [mkFn, sSeq, sNil, sBrk, sCnt, bindS, sExpr, sRet, sRetN, sIf, sSet, sSetIdx, sAug, sAsg, tgName, tgTup, tgSeq, Py.R.bind, Py.R.of, eVar, eC, eBin, eUn, eChain, tBool, tTru, truth, tNot', tAnd', tOr', tYes', eAnd, eOr, eNot, eIf, aNil, aCons, eTup, eLst, eCallB, eCall, eSl, oNone, oSome, pSl, pAdd, pSub, pMul_ok, pDiv, pMod, pNeg, pIAdd, pCmp, pEq, pNe, eqD, pIsN, pNotN, isNon, pIn, pNotIn, inD, pIdx, pLen, lenD, pAbs, pMax2, pMin2, pInt, pStr, pTuple, pList, pIsi, isiD, eMeth, tyD, pAppend, pCount, pRfind, pSIndex, pJoin, seqOf, Option.map_some, Option.map_none, Option.bind_some, Option.bind_none, Option.bind_eq_bind, Option.pure_def, List.getElem?_cons_zero, List.getElem?_cons_succ, List.getElem?_nil, List.set_cons_zero, List.set_cons_succ, List.set_nil, List.map_cons, List.map_nil, List.cons_append, List.nil_append, List.length_cons, List.length_nil, List.length_map, reduceIte, Bool.not_true, Bool.not_false, Bool.false_eq_true, decide_true, decide_false, Bool.and_true, Bool.true_and, beq_self_eq_true, Nat.zero_add, Option.isSome_some, sizeLine_v, and_self, Nat.reduceAdd, Int.cast_ofNat_Int, Int.natCast_zero, Int.natCast_one, Int.reduceEq, Int.reduceLT, Int.reduceLE, Int.reduceNeg, Int.reduceAdd, Int.reduceMul, Int.reduceSub, Nat.reduceEqDiff, Nat.reduceLT, Nat.reduceLeDiff, sFor, iSeq, srcOf, iSrc, pRange1, pRange2, iEnum', srcEn, p_law_1, line_ok (asc_valid hE he)]) (fun c => pre_items (List.prefix_append _ _) i2) (by rw [sizeLine_v]; omega)
  generalize hh3 : h2 ++ [Cell.lst (E.map fun e => D.str e.line)] = h3 at cm
  have S3 : LawSt ns E r h2.length h3 := by
    rw [← hh3]
    exact ⟨B2.app, get_app_old sc2, get_app_old ev2, get_app_new⟩
  have i3 := itemsL_lst S3.li
  have i3e := itemsL_lst S3.ev
  have lsum := lns_sum E
  have bd : ((E.map Ev.line).map List.length).sum + E.length * 0 ≤ 16777216 := by rw [lsum]; omega
  have jn : joinS [] (E.map Ev.line) = lns E := joinS_nil _
  have w4 := write_ok hE hlen h3
  have S4 : LawSt ns E r h2.length (h3 ++ [.lst (E.map fun e => D.str e.line)]) := S3.pre (List.prefix_append _ _)
  have e4 := same_ok 6 (.str (lns E)) (h3 ++ [.lst (E.map fun e => D.str e.line)]) trivial
  obtain ⟨h5, p5, e5⟩ := (read_ok (by omega) (reads_self hE) (h3 ++ [.lst (E.map fun e => D.str e.line)])).1 rfl
  have S5 := S4.pre p5
  have pr : PlainD 6 (.tup (E.map Ev.row)) := ⟨by rw [List.length_map]; omega, fun d hd => by
    obtain ⟨e, _, rfl⟩ := List.mem_map.mp hd
    exact plain_row 3 e⟩
  have e6 := same_ok 6 _ h5 pr
  have e7 := check_ok hE h5
  have r3 : InR (3 : Int) := ⟨by omega, by omega⟩
  -- the three changes
  have main : ∃ h6 x y z u, LawSt ns E r h2.length h6 ∧ forL (fun _ => True) (tgName 7) p_law_2 (rgD 0 3) [some (.ref 0), some (.ref 2), some (.ref r), some (.ref h2.length), none, some (.str (lns E)), some (.tup (E.map Ev.row)), none, none, none, none, none, none] h5 = .nx [some (.ref 0), some (.ref 2), some (.ref r), some (.ref h2.length), x, some (.str (lns E)), some (.tup (E.map Ev.row)), y, z, u, none, none, none] h6 := by
    generalize ho : forL _ _ _ _ _ _ = o
    refine forL_run ho (fun _ ρ h => ∃ x y z u, LawSt ns E r h2.length h ∧ ρ = [some (.ref 0), some (.ref 2), some (.ref r), some (.ref h2.length), x, some (.str (lns E)), some (.tup (E.map Ev.row)), y, z, u, none, none, none]) (fun o => ∃ h6 x y z u, LawSt ns E r h2.length h6 ∧ o = .nx [some (.ref 0), some (.ref 2), some (.ref r), some (.ref h2.length), x, some (.str (lns E)), some (.tup (E.map Ev.row)), y, z, u, none, none, none] h6) ?_ ?_ ⟨_, _, _, _, S5, rfl⟩
    · rintro i d ρ h hi ⟨x, y, z, u, S, rfl⟩
      refine ⟨trivial, _, rfl, ?_⟩
      obtain ⟨h', x', y', S', T⟩ := law_turn hE hlen hr2 hl2 S .non .non .non x (some (.tup (E.map Ev.row))) (some d) z u none
      show StepQ _ _ (p_law_2 [some (.ref 0), some (.ref 2), some (.ref r), some (.ref h2.length), x, some (.str (lns E)), some (.tup (E.map Ev.row)), some d, z, u, none, none, none] h)
      rw [T]
      exact ⟨_, _, _, _, S', rfl⟩
    · rintro ρ h ⟨x, y, z, u, S, rfl⟩
      exact ⟨trivial, h, x, y, z, u, S, rfl⟩
  obtain ⟨h6, x, y, z, u, S6, e8⟩ := main
  -- the bent row
  obtain ⟨q, h7, a1, a2, B7, x7, l7, e9⟩ := take_ok (many := (E.length : Int)) S6.bag S6.scr (by decide) (by omega) (by omega)
  obtain ⟨at', rfl⟩ := int_of a1
  have S7 := S6.ext B7 x7 hr2 hl2
  unfold fn_law b_law
  have i6 := itemsL_lst S6.ev
  have i7 := itemsL_lst S7.ev
  have hat : at' < E.length := by omega
  generalize ho7 : ([.tup [.int 401, .str [97, 115, 107], .int 0], .tup [.int 400, .str [97, 115, 107], .int 40], .tup [.int 400, .str [103, 105, 118, 101, 32, 117, 112], .int 0], .tup [.int 400, .str [97, 114, 105, 118, 101], .int 1], .tup [.int 400, .str [100, 111]], .non, .tup [.bl true, .str [100, 111], .int 1]] : List D) = o7
  generalize ho4 : ([.tup [.int 400, .str [104, 101, 97, 114], .bl true], .tup [.int 400, .str [99, 114, 97, 115, 104], .int 0], .tup [.int 400, .str [97, 115, 107], .int (-1)], .int 400] : List D) = o4
  have ol7 : o7.length = 7 := by rw [← ho7]; rfl
  have ol4 : o4.length = 4 := by rw [← ho4]; rfl
  have os : o7 ++ o4 = odds := by rw [← ho7, ← ho4]; rfl
  have S8 : LawSt ns E r h2.length (h7 ++ [.lst o7] ++ [.lst o4] ++ [.lst (o7 ++ o4)]) := S7.pre (by rw [List.append_assoc, List.append_assoc]; exact List.prefix_append _ _)
  have g7 : lstOf (h7 ++ [.lst o7] ++ [.lst o4]) h7.length = some o7 := lstOf_lst (get_app_old get_app_new)
  have g4 : lstOf (h7 ++ [.lst o7] ++ [.lst o4]) (h7 ++ [Cell.lst o7]).length = some o4 := lstOf_lst get_app_new
  generalize hh8 : h7 ++ [Cell.lst o7] ++ [Cell.lst o4] ++ [Cell.lst (o7 ++ o4)] = h8 at S8
  have g8 : h8[(h7 ++ [Cell.lst o7] ++ [Cell.lst o4]).length]? = some (.lst (o7 ++ o4)) := by rw [← hh8]; exact get_app_new
  have h72 : 2 < h7.length := by
    obtain ⟨_, _, _, _, _, _, e⟩ := S7.bag
    exact get_lt e
  have n8 : (h7 ++ [Cell.lst o7] ++ [Cell.lst o4]).length ≠ 2 := by
    rw [List.length_append, List.length_append]
    simp only [List.length_singleton]
    omega
  generalize hn8 : (h7 ++ [Cell.lst o7] ++ [Cell.lst o4]).length = n at g8 n8
  have i8 := itemsL_lst g8
  have i8e := itemsL_lst S8.ev
  have ct1 : cutL (E.map Ev.row) none (some (at' : Int)) = (E.take at').map Ev.row := by rw [cutL_take, List.map_take]
  have ct2 : cutL (E.map Ev.row) (some ((at' + 1 : Nat) : Int)) none = (E.drop (at' + 1)).map Ev.row := by rw [cutL_drop, List.map_drop]
  have z1 : (E.take at').length + 1 ≤ 16777216 := by rw [List.length_take]; omega
  have z2 : ((E.take at').map Ev.row).length + 1 + (E.drop (at' + 1)).length ≤ 16777216 := by rw [List.length_map, List.length_take, List.length_drop]; omega
  have z3 : ∀ d : D, ((E.take at').map Ev.row ++ [d]).length + (E.drop (at' + 1)).length ≤ 16777216 := by intro d; rw [List.length_append, List.length_map, List.length_take, List.length_drop]; simp; omega
  have es := fun h => same_ok 6 (.int (at' : Nat)) h trivial
  have plain : ∀ (hh : HH), ¬ (0 < at' ∧ 0 < lastT 0 (E.take at')) → True := fun _ _ => trivial
  have i8o : (o7 ++ o4).length = 11 := by rw [List.length_append, ol7, ol4]
  obtain ⟨j, h9, d, f1, f2, f3, f4⟩ := odd_tail (a := at') hE S8 i8 n8 (by rw [os]; exact odds_bad _) (by omega) (by omega) hat
  rw [i8o] at f1
  have f1' : fn__law_take [.ref 2, .ref 0, .int 11] h8 = .ok (.int j) h9 := f1
  by_cases h0 : 0 < at'
  · have kk : (0 : Int) < (at' : Int) := by omega
    have k1 : (at' : Int) - 1 = ((at' - 1 : Nat) : Int) := by omega
    have hk := List.getElem?_eq_getElem (show at' - 1 < E.length by omega)
    have lt : lastT 0 (E.take at') = (E[at' - 1]'(by omega)).t := by
      have := take_snoc hk
      rw [show at' - 1 + 1 = at' by omega] at this
      rw [this, lastT_snoc]
    obtain ⟨u', v', hat7⟩ : ∃ u v, L2.atI (E.map Ev.row) ((at' - 1 : Nat) : Int) = some (.tup [.int (lastT 0 (E.take at') : Nat), u, v]) := by
      refine ⟨_, _, (show _ = some (E[at' - 1]'(by omega)).row from ?_).trans (by unfold Ev.row; rw [lt])⟩
      rw [Py.atI_nat, List.getElem?_map, hk]
      rfl
    by_cases ht : (0 : Int) < (lastT 0 (E.take at') : Nat)
    · have tle := lastT_le (asc_take (i := at') hE) (Nat.zero_le 400)
      generalize hb : lastT 0 (E.take at') = b at ht hat7 tle
      have hl1 : lstOf (h8 ++ [Cell.lst [.tup [.int ((b : Int) - 1), .str [97, 115, 107], .int 0]]]) h8.length = some [.tup [.int ((b : Int) - 1), .str [97, 115, 107], .int 0]] := lstOf_lst get_app_new
      have m1 := pMul_ref hl1 (k := 5) ⟨by decide, by decide, show 1 * 5 ≤ 16777216 by decide⟩
      generalize hr5 : (List.replicate (5 : Int).toNat [D.tup [.int ((b : Int) - 1), .str [97, 115, 107], .int 0]]).flatten = o5 at m1
      have l5 : o5.length = 5 := by rw [← hr5]; rfl
      have m5 : ∀ d ∈ o5, d = D.tup [.int ((b : Int) - 1), .str [97, 115, 107], .int 0] := by
        intro d hd
        rw [← hr5] at hd
        obtain ⟨l, hl, hd⟩ := List.mem_flatten.mp hd
        rw [List.eq_of_mem_replicate hl] at hd
        simpa using hd
      generalize hp9 : h8 ++ [Cell.lst [.tup [.int ((b : Int) - 1), .str [97, 115, 107], .int 0]]] = hp at hl1 m1
      have c1 : lstOf (hp ++ [Cell.lst o5]) n = some (o7 ++ o4) := by
        rw [← hp9, List.append_assoc]
        exact lstOf_lst (get_app_old g8)
      have c2 : lstOf (hp ++ [Cell.lst o5]) hp.length = some o5 := lstOf_lst get_app_new
      have S10 : LawSt ns E r h2.length (hp ++ [.lst o5] ++ [.lst (o7 ++ o4 ++ o5)]) := S8.pre (by rw [← hp9, List.append_assoc, List.append_assoc]; exact List.prefix_append _ _)
      have i10 : itemsL (hp ++ [Cell.lst o5] ++ [Cell.lst (o7 ++ o4 ++ o5)]) (hp ++ [Cell.lst o5]).length = some (o7 ++ o4 ++ o5) := itemsL_lst get_app_new
      generalize hh10 : hp ++ [Cell.lst o5] ++ [Cell.lst (o7 ++ o4 ++ o5)] = h10 at S10 i10
      have n10 : (hp ++ [Cell.lst o5]).length ≠ 2 := by
        rw [← hp9, ← hh8]
        simp only [List.length_append, List.length_singleton]
        omega
      generalize hn10 : (hp ++ [Cell.lst o5]).length = n' at i10 n10
      have i10o : (o7 ++ o4 ++ o5).length = 16 := by rw [List.length_append, i8o, l5]
      obtain ⟨j, h9, d, f1, f2, f3, f4⟩ := odd_tail (a := at') hE S10 i10 n10 (fun d hd => by
        rw [hb]
        rcases List.mem_append.mp hd with h | h
        · rw [os] at h; exact odds_bad _ d h
        · rw [m5 d h]; exact odd12 (by omega) tle) (by omega) (by omega) hat
      rw [i10o] at f1
      have f1' : fn__law_take [.ref 2, .ref 0, .int 16] h10 = .ok (.int j) h9 := f1
      refine ⟨_, by
        simp only [mkFn, sSeq, sNil, sBrk, sCnt, bindS, sExpr, sRet, sRetN, sIf, sSet, sSetIdx, sAug, sAsg, tgName, tgTup, tgSeq, Py.R.bind, Py.R.of, eVar, eC, eBin, eUn, eChain, tBool, tTru, truth, tNot', tAnd', tOr', tYes', eAnd, eOr, eNot, eIf, aNil, aCons, eTup, eLst, eCallB, eCall, eSl, oNone, oSome, pSl, pAdd, pSub, pMul_ok, pDiv, pMod, pNeg, pIAdd, pCmp, pEq, pNe, eqD, pIsN, pNotN, isNon, pIn, pNotIn, inD, pIdx, pLen, lenD, pAbs, pMax2, pMin2, pInt, pStr, pTuple, pList, pIsi, isiD, eMeth, tyD, pAppend, pCount, pRfind, pSIndex, pJoin, seqOf, Option.map_some, Option.map_none, Option.bind_some, Option.bind_none, Option.bind_eq_bind, Option.pure_def, List.getElem?_cons_zero, List.getElem?_cons_succ, List.getElem?_nil, List.set_cons_zero, List.set_cons_succ, List.set_nil, List.map_cons, List.map_nil, List.cons_append, List.nil_append, List.length_cons, List.length_nil, List.length_map, reduceIte, Bool.not_true, Bool.not_false, Bool.false_eq_true, decide_true, decide_false, Bool.and_true, Bool.true_and, beq_self_eq_true, Nat.zero_add, Option.isSome_some, sizeLine_v, and_self, Nat.reduceAdd, Int.cast_ofNat_Int, Int.natCast_zero, Int.natCast_one, Int.reduceEq, Int.reduceLT, Int.reduceLE, Int.reduceNeg, Int.reduceAdd, Int.reduceMul, Int.reduceSub, Nat.reduceEqDiff, Nat.reduceLT, Nat.reduceLeDiff, sFor, iSeq, srcOf, iSrc, pRange1, pRange2, iEnum', srcEn, e1, e2, eLc, wipeR, i2, cm, i3, strs_map, bd, jn, i3e, w4, e4, e5, e6, e7, r3, Int.reduceToNat, e8, i6, e9, ol7, ol4, g7, g4, hh8, hn8, ho7, ho4, kk, k1, i8, i8e, hat7, at30, ht, hp9, m1, c1, c2, i8o, l5, hh10, hn10, i10, i10o, ct1, ct2, nat_add1, z1, z2, z3, f1', f2, f3, f4, es] <;> rfl⟩
    · refine ⟨_, by
        simp only [mkFn, sSeq, sNil, sBrk, sCnt, bindS, sExpr, sRet, sRetN, sIf, sSet, sSetIdx, sAug, sAsg, tgName, tgTup, tgSeq, Py.R.bind, Py.R.of, eVar, eC, eBin, eUn, eChain, tBool, tTru, truth, tNot', tAnd', tOr', tYes', eAnd, eOr, eNot, eIf, aNil, aCons, eTup, eLst, eCallB, eCall, eSl, oNone, oSome, pSl, pAdd, pSub, pMul_ok, pDiv, pMod, pNeg, pIAdd, pCmp, pEq, pNe, eqD, pIsN, pNotN, isNon, pIn, pNotIn, inD, pIdx, pLen, lenD, pAbs, pMax2, pMin2, pInt, pStr, pTuple, pList, pIsi, isiD, eMeth, tyD, pAppend, pCount, pRfind, pSIndex, pJoin, seqOf, Option.map_some, Option.map_none, Option.bind_some, Option.bind_none, Option.bind_eq_bind, Option.pure_def, List.getElem?_cons_zero, List.getElem?_cons_succ, List.getElem?_nil, List.set_cons_zero, List.set_cons_succ, List.set_nil, List.map_cons, List.map_nil, List.cons_append, List.nil_append, List.length_cons, List.length_nil, List.length_map, reduceIte, Bool.not_true, Bool.not_false, Bool.false_eq_true, decide_true, decide_false, Bool.and_true, Bool.true_and, beq_self_eq_true, Nat.zero_add, Option.isSome_some, sizeLine_v, and_self, Nat.reduceAdd, Int.cast_ofNat_Int, Int.natCast_zero, Int.natCast_one, Int.reduceEq, Int.reduceLT, Int.reduceLE, Int.reduceNeg, Int.reduceAdd, Int.reduceMul, Int.reduceSub, Nat.reduceEqDiff, Nat.reduceLT, Nat.reduceLeDiff, sFor, iSeq, srcOf, iSrc, pRange1, pRange2, iEnum', srcEn, e1, e2, eLc, wipeR, i2, cm, i3, strs_map, bd, jn, i3e, w4, e4, e5, e6, e7, r3, Int.reduceToNat, e8, i6, e9, ol7, ol4, g7, g4, hh8, hn8, ho7, ho4, kk, k1, i8, i8e, hat7, at30, ht, ct1, ct2, nat_add1, z1, z2, z3, i8o, f1', f2, f3, f4, es] <;> rfl⟩
  · have kk : ¬ (0 : Int) < (at' : Int) := by omega
    refine ⟨_, by
        simp only [mkFn, sSeq, sNil, sBrk, sCnt, bindS, sExpr, sRet, sRetN, sIf, sSet, sSetIdx, sAug, sAsg, tgName, tgTup, tgSeq, Py.R.bind, Py.R.of, eVar, eC, eBin, eUn, eChain, tBool, tTru, truth, tNot', tAnd', tOr', tYes', eAnd, eOr, eNot, eIf, aNil, aCons, eTup, eLst, eCallB, eCall, eSl, oNone, oSome, pSl, pAdd, pSub, pMul_ok, pDiv, pMod, pNeg, pIAdd, pCmp, pEq, pNe, eqD, pIsN, pNotN, isNon, pIn, pNotIn, inD, pIdx, pLen, lenD, pAbs, pMax2, pMin2, pInt, pStr, pTuple, pList, pIsi, isiD, eMeth, tyD, pAppend, pCount, pRfind, pSIndex, pJoin, seqOf, Option.map_some, Option.map_none, Option.bind_some, Option.bind_none, Option.bind_eq_bind, Option.pure_def, List.getElem?_cons_zero, List.getElem?_cons_succ, List.getElem?_nil, List.set_cons_zero, List.set_cons_succ, List.set_nil, List.map_cons, List.map_nil, List.cons_append, List.nil_append, List.length_cons, List.length_nil, List.length_map, reduceIte, Bool.not_true, Bool.not_false, Bool.false_eq_true, decide_true, decide_false, Bool.and_true, Bool.true_and, beq_self_eq_true, Nat.zero_add, Option.isSome_some, sizeLine_v, and_self, Nat.reduceAdd, Int.cast_ofNat_Int, Int.natCast_zero, Int.natCast_one, Int.reduceEq, Int.reduceLT, Int.reduceLE, Int.reduceNeg, Int.reduceAdd, Int.reduceMul, Int.reduceSub, Nat.reduceEqDiff, Nat.reduceLT, Nat.reduceLeDiff, sFor, iSeq, srcOf, iSrc, pRange1, pRange2, iEnum', srcEn, e1, e2, eLc, wipeR, i2, cm, i3, strs_map, bd, jn, i3e, w4, e4, e5, e6, e7, r3, Int.reduceToNat, e8, i6, e9, ol7, ol4, g7, g4, hh8, hn8, ho7, ho4, kk, i8, i8e, at30, ct1, ct2, nat_add1, z1, z2, z3, i8o, f1', f2, f3, f4, es] <;> rfl⟩
end T75
set_option Elab.async false
set_option linter.all false
set_option maxRecDepth 100000
set_option maxHeartbeats 4000000
theorem T75.fin_mk {w : PySem.World} {K : PySem.W.Frag} {h : PySem.Heap} {mg : PySem.Str → Option PySem.Value} {fa : PySem.Addr} (X : K.In h) (hfa : mg "law" = some (.ref fa)) (T : T75.Txt K mg) :
    ∃ fd : PySem.FuncData, (∀ (s : PySem.Shared) (v : PySem.Value), PySem.BindsTo s fd ⟨[v], []⟩ [(("script" : PySem.Str), v)]) ∧ ∀ base : PySem.Heap, K.In base → base.Ns PySem.mainGlobals mg → L2.FnOk PySem.Challenge.pw_trunkcall_k75_long_log_texts w K mg base (L2.CX PySem.Challenge.pw_trunkcall_k75_long_log_texts w) 8 fa fd ["script"] (Py.spLaw K) :=
  Py.fin_law (l := PySem.Challenge.rw_trunkcall_k75_long_log_texts) hfa T.f_law (fun base => T75.ok_law T) T75.law_true (fun _ _ _ _ _ _ _ => rfl)
open PySem PySem.W PyProof.Rows in
set_option maxHeartbeats 0 in
theorem PySem.Challenge.cw_trunkcall_k75_long_log_texts_holds : PySem.Challenge.rw_trunkcall_k75_long_log_texts.Holds := by
  w_on; o_law; k_head; (case hw => w_witness2)
  k_fill
  refine L2.walk_of (l := PySem.Challenge.rw_trunkcall_k75_long_log_texts) (n := 63) (k := 8) (x := "script") (CX := fun w => L2.CX PySem.Challenge.pw_trunkcall_k75_long_log_texts w) (sp := fun w => Py.spLaw _) rfl (by decide) rfl ⟨rfl, by decide, by decide⟩ (fun w h Y => PySem.W.kIn_of Y) ?F (fun _ _ a ns hl ho hS => ⟨a, ns, rfl, hl, Py.scr_of ho hS, fun _ => rfl⟩) (fun _ _ _ _ _ h => Py.no_exc h)
  case F =>
    intro w mg fa h KX G hmg0
    have hmg : mg "law" = some (.ref fa) := hmg0
    clear hmg0
    refine' T75.fin_mk KX hmg ⟨?n_abs, ?n_bool, ?n_enumerate, ?n_int, ?n_isinstance, ?n_len, ?n_max, ?n_min, ?n_range, ?n_str, ?n_tuple, ?g_MOST_TICK, ?g_LAST_NUMBER, ?g_NUMBERED, ?g_PLAIN, ?g_ENDED, ?g_DIGITS, ?e_BadBook, ?e_BadLine, ?x_BadBook, ?x_BadLine, ?f_is_int, ?f_is_int_in, ?f_is_event, ?f_check_log, ?f__write_event, ?f_write_log, ?f__refuse, ?f__can_begin, ?f__read_number, ?f__read_char, ?f__common, ?f__read_word, ?f_read_log, ?f__law_bag, ?f__law_take, ?f__law_same, ?f__law_events, ?f__law_line, ?f__law_sign, ?f__law_changed, ?f__law_stage, ?f__law_read_line, ?f__law_due, ?f__law_told, ?f__law_refused, ?f_law⟩
    (case n_abs => exact PySem.W.mg_none_of KX G (by k_is))
    (case n_bool => exact PySem.W.mg_none_of KX G (by k_is))
    (case n_enumerate => exact PySem.W.mg_none_of KX G (by k_is))
    (case n_int => exact PySem.W.mg_none_of KX G (by k_is))
    (case n_isinstance => exact PySem.W.mg_none_of KX G (by k_is))
    (case n_len => exact PySem.W.mg_none_of KX G (by k_is))
    (case n_max => exact PySem.W.mg_none_of KX G (by k_is))
    (case n_min => exact PySem.W.mg_none_of KX G (by k_is))
    (case n_range => exact PySem.W.mg_none_of KX G (by k_is))
    (case n_str => exact PySem.W.mg_none_of KX G (by k_is))
    (case n_tuple => exact PySem.W.mg_none_of KX G (by k_is))
    (case g_MOST_TICK => refine' Py.glob_int G KX ?a; (case a => k_is))
    (case g_LAST_NUMBER => refine' Py.glob_int G KX ?a; (case a => k_is))
    (case g_NUMBERED => refine' Py.glob_tup G KX ?e ?l ?hs ?hw; (case e => k_is); (case l => k_is); (case hs => decide); (case hw => rfl))
    (case g_PLAIN => refine' Py.glob_tup G KX ?e ?l ?hs ?hw; (case e => k_is); (case l => k_is); (case hs => decide); (case hw => rfl))
    (case g_ENDED => refine' Py.glob_tup G KX ?e ?l ?hs ?hw; (case e => k_is); (case l => k_is); (case hs => decide); (case hw => rfl))
    (case g_DIGITS => refine' Py.glob_str G KX ?a ?e; (case a => k_is); (case e => rfl))
    (case e_BadBook => refine' Py.has_exc G KX ?a ?l ?hbm ?sa ?exC ?tyC ?kC ?ga ?gg ?hd ?hn ?iC ?tI ?lf ?cf ?kf ?hb; (case a => k_is); (case l => k_is); (case hbm => decide +kernel); (case sa => k_is); (case exC => k_is); (case tyC => k_is); (case kC => k_is); (case ga => k_is); (case gg => k_is); (case hd => k_is); (case hn => intro n hn; simp only [List.mem_cons, List.not_mem_nil, or_false] at hn; subst hn; k_is); (case iC => k_is); (case tI => k_is); (case lf => k_is); (case cf => k_is); (case kf => k_is); (case hb => exact fun _ _ _ _ _ _ us hl => match us, hl with | [_, _], _ => rfl))
    (case e_BadLine => refine' Py.has_exc G KX ?a ?l ?hbm ?sa ?exC ?tyC ?kC ?ga ?gg ?hd ?hn ?iC ?tI ?lf ?cf ?kf ?hb; (case a => k_is); (case l => k_is); (case hbm => decide +kernel); (case sa => k_is); (case exC => k_is); (case tyC => k_is); (case kC => k_is); (case ga => k_is); (case gg => k_is); (case hd => k_is); (case hn => intro n hn; simp only [List.mem_cons, List.not_mem_nil, or_false] at hn; rcases hn with rfl | rfl <;> k_is); (case iC => k_is); (case tI => k_is); (case lf => k_is); (case cf => k_is); (case kf => k_is); (case hb => exact fun _ _ _ _ _ _ us hl => match us, hl with | [_, _, _], _ => rfl))
    (case x_BadBook => refine' Py.exl_of G KX ?a0 ?r; (case a0 => k_is); (case r => (refine' Py.exl_cons (c1 := "BadBook") G KX ?h1 ?h2 ?h3 ?a ?s ?hb ?r; (case h1 => k_is); (case h2 => k_is); (case h3 => k_is); (case a => k_is); (case s => (first | rfl | k_is)); (case hb => decide +kernel); (case r => refine' Py.exl_cons (c1 := "BadLine") G KX ?h1 ?h2 ?h3 ?a ?s ?hb ?r; (case h1 => k_is); (case h2 => k_is); (case h3 => k_is); (case a => k_is); (case s => (first | rfl | k_is)); (case hb => decide +kernel); (case r => exact Py.exl_nil)))))
    (case x_BadLine => refine' Py.exl_of G KX ?a0 ?r; (case a0 => k_is); (case r => (refine' Py.exl_cons (c1 := "BadLine") G KX ?h1 ?h2 ?h3 ?a ?s ?hb ?r; (case h1 => k_is); (case h2 => k_is); (case h3 => k_is); (case a => k_is); (case s => (first | rfl | k_is)); (case hb => decide +kernel); (case r => refine' Py.exl_cons (c1 := "BadBook") G KX ?h1 ?h2 ?h3 ?a ?s ?hb ?r; (case h1 => k_is); (case h2 => k_is); (case h3 => k_is); (case a => k_is); (case s => (first | rfl | k_is)); (case hb => decide +kernel); (case r => exact Py.exl_nil)))))
    (case f_is_int => refine' Py.has_fn G KX ?a ?l ?c ?k ?b; (case a => k_is); (case l => k_is); (case c => k_is); (case k => k_is); (case b => exact fun _ _ _ _ _ _ us hl => match us, hl with | [_], _ => rfl))
    (case f_is_int_in => refine' Py.has_fn G KX ?a ?l ?c ?k ?b; (case a => k_is); (case l => k_is); (case c => k_is); (case k => k_is); (case b => exact fun _ _ _ _ _ _ us hl => match us, hl with | [_, _, _], _ => rfl))
    (case f_is_event => refine' Py.has_fn G KX ?a ?l ?c ?k ?b; (case a => k_is); (case l => k_is); (case c => k_is); (case k => k_is); (case b => exact fun _ _ _ _ _ _ us hl => match us, hl with | [_], _ => rfl))
    (case f_check_log => refine' Py.has_fn G KX ?a ?l ?c ?k ?b; (case a => k_is); (case l => k_is); (case c => k_is); (case k => k_is); (case b => exact fun _ _ _ _ _ _ us hl => match us, hl with | [_], _ => rfl))
    (case f__write_event => refine' Py.has_fn G KX ?a ?l ?c ?k ?b; (case a => k_is); (case l => k_is); (case c => k_is); (case k => k_is); (case b => exact fun _ _ _ _ _ _ us hl => match us, hl with | [_], _ => rfl))
    (case f_write_log => refine' Py.has_fn G KX ?a ?l ?c ?k ?b; (case a => k_is); (case l => k_is); (case c => k_is); (case k => k_is); (case b => exact fun _ _ _ _ _ _ us hl => match us, hl with | [_], _ => rfl))
    (case f__refuse => refine' Py.has_fn G KX ?a ?l ?c ?k ?b; (case a => k_is); (case l => k_is); (case c => k_is); (case k => k_is); (case b => exact fun _ _ _ _ _ _ us hl => match us, hl with | [_, _], _ => rfl))
    (case f__can_begin => refine' Py.has_fn G KX ?a ?l ?c ?k ?b; (case a => k_is); (case l => k_is); (case c => k_is); (case k => k_is); (case b => exact fun _ _ _ _ _ _ us hl => match us, hl with | [_, _, _], _ => rfl))
    (case f__read_number => refine' Py.has_fn G KX ?a ?l ?c ?k ?b; (case a => k_is); (case l => k_is); (case c => k_is); (case k => k_is); (case b => exact fun _ _ _ _ _ _ us hl => match us, hl with | [_, _, _, _], _ => rfl))
    (case f__read_char => refine' Py.has_fn G KX ?a ?l ?c ?k ?b; (case a => k_is); (case l => k_is); (case c => k_is); (case k => k_is); (case b => exact fun _ _ _ _ _ _ us hl => match us, hl with | [_, _, _], _ => rfl))
    (case f__common => refine' Py.has_fn G KX ?a ?l ?c ?k ?b; (case a => k_is); (case l => k_is); (case c => k_is); (case k => k_is); (case b => exact fun _ _ _ _ _ _ us hl => match us, hl with | [_, _, _], _ => rfl))
    (case f__read_word => refine' Py.has_fn G KX ?a ?l ?c ?k ?b; (case a => k_is); (case l => k_is); (case c => k_is); (case k => k_is); (case b => exact fun _ _ _ _ _ _ us hl => match us, hl with | [_, _], _ => rfl))
    (case f_read_log => refine' Py.has_fn G KX ?a ?l ?c ?k ?b; (case a => k_is); (case l => k_is); (case c => k_is); (case k => k_is); (case b => exact fun _ _ _ _ _ _ us hl => match us, hl with | [_], _ => rfl))
    (case f__law_bag => refine' Py.has_fn G KX ?a ?l ?c ?k ?b; (case a => k_is); (case l => k_is); (case c => k_is); (case k => k_is); (case b => exact fun _ _ _ _ _ _ us hl => match us, hl with | [_], _ => rfl))
    (case f__law_take => refine' Py.has_fn G KX ?a ?l ?c ?k ?b; (case a => k_is); (case l => k_is); (case c => k_is); (case k => k_is); (case b => exact fun _ _ _ _ _ _ us hl => match us, hl with | [_, _, _], _ => rfl))
    (case f__law_same => refine' Py.has_fn G KX ?a ?l ?c ?k ?b; (case a => k_is); (case l => k_is); (case c => k_is); (case k => k_is); (case b => exact fun _ _ _ _ _ _ us hl => match us, hl with | [_, _], _ => rfl))
    (case f__law_events => refine' Py.has_fn G KX ?a ?l ?c ?k ?b; (case a => k_is); (case l => k_is); (case c => k_is); (case k => k_is); (case b => exact fun _ _ _ _ _ _ us hl => match us, hl with | [_, _], _ => rfl))
    (case f__law_line => refine' Py.has_fn G KX ?a ?l ?c ?k ?b; (case a => k_is); (case l => k_is); (case c => k_is); (case k => k_is); (case b => exact fun _ _ _ _ _ _ us hl => match us, hl with | [_], _ => rfl))
    (case f__law_sign => refine' Py.has_fn G KX ?a ?l ?c ?k ?b; (case a => k_is); (case l => k_is); (case c => k_is); (case k => k_is); (case b => exact fun _ _ _ _ _ _ us hl => match us, hl with | [_, _], _ => rfl))
    (case f__law_changed => refine' Py.has_fn G KX ?a ?l ?c ?k ?b; (case a => k_is); (case l => k_is); (case c => k_is); (case k => k_is); (case b => exact fun _ _ _ _ _ _ us hl => match us, hl with | [_, _, _, _], _ => rfl))
    (case f__law_stage => refine' Py.has_fn G KX ?a ?l ?c ?k ?b; (case a => k_is); (case l => k_is); (case c => k_is); (case k => k_is); (case b => exact fun _ _ _ _ _ _ us hl => match us, hl with | [_, _, _], _ => rfl))
    (case f__law_read_line => refine' Py.has_fn G KX ?a ?l ?c ?k ?b; (case a => k_is); (case l => k_is); (case c => k_is); (case k => k_is); (case b => exact fun _ _ _ _ _ _ us hl => match us, hl with | [_, _], _ => rfl))
    (case f__law_due => refine' Py.has_fn G KX ?a ?l ?c ?k ?b; (case a => k_is); (case l => k_is); (case c => k_is); (case k => k_is); (case b => exact fun _ _ _ _ _ _ us hl => match us, hl with | [_, _, _, _], _ => rfl))
    (case f__law_told => refine' Py.has_fn G KX ?a ?l ?c ?k ?b; (case a => k_is); (case l => k_is); (case c => k_is); (case k => k_is); (case b => exact fun _ _ _ _ _ _ us hl => match us, hl with | [_], _ => rfl))
    (case f__law_refused => refine' Py.has_fn G KX ?a ?l ?c ?k ?b; (case a => k_is); (case l => k_is); (case c => k_is); (case k => k_is); (case b => exact fun _ _ _ _ _ _ us hl => match us, hl with | [_, _], _ => rfl))
    (case f_law => refine' Py.has_fn G KX ?a ?l ?c ?k ?b; (case a => k_is); (case l => k_is); (case c => k_is); (case k => k_is); (case b => exact fun _ _ _ _ _ _ us hl => match us, hl with | [_], _ => rfl))
