import PyProof.Rows.All
import Wide.All
import OpenK.AllK
import Wide.FinOn
import HandS.ForMost
import HandS.Walk
import HandS.Evl
import HandS.TupAny
import HandS.TupMul
import HandS.TupLe
import HandS.Deep
import HandS.IsInst
import KE.GoesMore
import PySem.Challenge.RW_sieverules_k12_whole_tests_reckoned
set_option Elab.async false
set_option linter.all false
set_option maxRecDepth 100000
set_option maxHeartbeats 4000000
/-! Data in the heap, and what readings evaluate to as functions of data. -/
namespace Sv
open PySem L2 Evl

abbrev Fg := PySem.W.Frag
abbrev Av := Addr → Prop

def kD : Key → PyData
  | .inl i => .int i
  | .inr x => .str x

/-! ### what stands for a datum -/
mutual
def Rep (K : Fg) (H : Hp) (A : Av) : PyData → V → Prop
  | .none, v => v = .non
  | .bool b, v => v = .bl b
  | .int i, v => v = .int i
  | .str s, v => v = .str s
  | .tuple ds, v => ∃ a xs, v = .ref a ∧ SqT K H a xs ∧ RepL K H A ds xs
  | .list ds, v => ∃ a xs, v = .ref a ∧ ¬ A a ∧ Rd H a (.lst xs) ∧ RepL K H A ds xs
  | .dict kvs, v => ∃ a ps, v = .ref a ∧ ¬ A a ∧ H a = some (.dK ps) ∧ RepP K H A kvs ps
def RepL (K : Fg) (H : Hp) (A : Av) : List PyData → List V → Prop
  | [], xs => xs = []
  | d :: ds, xs => ∃ y ys, xs = y :: ys ∧ Rep K H A d y ∧ RepL K H A ds ys
def RepP (K : Fg) (H : Hp) (A : Av) : List (PyData × PyData) → List (Key × V) → Prop
  | [], ps => ps = []
  | kd :: r, ps => ∃ q y ys, ps = (q, y) :: ys ∧ kd.1 = kD q ∧ Rep K H A kd.2 y ∧ RepP K H A r ys
end

/-- all that is not avoided is kept -/
def Kp (A : Av) (H H' : Hp) : Prop := ∀ b o, H b = some o → ¬ A b → H' b = some o
/-- what is avoided may be written -/
def AvOk (A : Av) (H : Hp) : Prop := ∀ a, A a → Mut (H a)

section
variable {K : Fg} {H H' H1 H2 : Hp} {A B : Av}
theorem Kp.ofEx (e : Ex H H') : Kp A H H' := fun b o h _ => e b o h
theorem Kp.refl : Kp A H H := fun _ _ h _ => h
theorem Kp.trans (a : Kp A H H1) (b : Kp A H1 H2) : Kp A H H2 := fun c o h n => b c o (a c o h n) n
theorem AvOk.mono (e : Ex H H') (h : AvOk A H) : AvOk A H' := fun a ha => by
  have := h a ha
  cases q : H a with
  | none => rw [q] at this; exact this.elim
  | some o => rw [e a o q]; rw [q] at this; exact this
theorem AvOk.fresh (h : AvOk A H) {p : Addr} (hp : H p = none) : ¬ A p := fun ha => by
  have := h p ha
  rw [hp] at this; exact this
theorem Rd.keep (ok : AvOk A H) (k : Kp A H H') {a : Addr} {u : HO} (hu : ¬ Mut (some u)) (h : Rd H a u) : Rd H' a u := by
  rcases h with h | ⟨o, h⟩
  · refine .inl (k a _ h fun ha => hu ?_)
    have := ok a ha
    rw [h] at this; exact this
  · refine .inr ⟨o, k a _ h fun ha => ?_⟩
    have := ok a ha
    rw [h] at this; exact this
theorem SqT.keep (ok : AvOk A H) (k : Kp A H H') {a : Addr} {xs : List V} (h : SqT K H a xs) : SqT K H' a xs := by
  rcases h with h | h
  · exact .inl (Rd.keep ok k (fun z => z) h)
  · exact .inr h
theorem Rd.keepN (k : Kp A H H') {a : Addr} {u : HO} (na : ¬ A a) (h : Rd H a u) : Rd H' a u := by
  rcases h with h | ⟨o, h⟩
  · exact .inl (k a _ h na)
  · exact .inr ⟨o, k a _ h na⟩
theorem Rd.there {a : Addr} {u : HO} (h : Rd H a u) : H a ≠ none := by
  rcases h with h | ⟨o, h⟩ <;> rw [h] <;> intro z <;> cases z
mutual
theorem Rep.keep (ok : AvOk A H) (k : Kp A H H') : ∀ (d : PyData) (v : V), Rep K H A d v → Rep K H' A d v
  | .none, _, h => by simpa only [Rep] using h
  | .bool b, _, h => by simpa only [Rep] using h
  | .int i, _, h => by simpa only [Rep] using h
  | .str s, _, h => by simpa only [Rep] using h
  | .tuple ds, v, h => by
    simp only [Rep] at h ⊢
    obtain ⟨a, xs, e, h1, h2⟩ := h
    exact ⟨a, xs, e, SqT.keep ok k h1, RepL.keep ok k ds xs h2⟩
  | .list ds, v, h => by
    simp only [Rep] at h ⊢
    obtain ⟨a, xs, e, na, h1, h2⟩ := h
    exact ⟨a, xs, e, na, Rd.keepN k na h1, RepL.keep ok k ds xs h2⟩
  | .dict kvs, v, h => by
    simp only [Rep] at h ⊢
    obtain ⟨a, ps, e, na, h1, h2⟩ := h
    exact ⟨a, ps, e, na, k a _ h1 na, RepP.keep ok k kvs ps h2⟩
theorem RepL.keep (ok : AvOk A H) (k : Kp A H H') : ∀ (ds : List PyData) (xs : List V), RepL K H A ds xs → RepL K H' A ds xs
  | [], _, h => by simpa only [RepL] using h
  | d :: ds, xs, h => by
    simp only [RepL] at h ⊢
    obtain ⟨y, ys, e, h1, h2⟩ := h
    exact ⟨y, ys, e, Rep.keep ok k d y h1, RepL.keep ok k ds ys h2⟩
theorem RepP.keep (ok : AvOk A H) (k : Kp A H H') : ∀ (kvs : List (PyData × PyData)) (ps : List (Key × V)), RepP K H A kvs ps → RepP K H' A kvs ps
  | [], _, h => by simpa only [RepP] using h
  | (kd, d) :: r, ps, h => by
    simp only [RepP] at h ⊢
    obtain ⟨q, y, ys, e, e2, h1, h2⟩ := h
    exact ⟨q, y, ys, e, e2, Rep.keep ok k d y h1, RepP.keep ok k r ys h2⟩
end
mutual
theorem Rep.anti (s : ∀ a, B a → A a) : ∀ (d : PyData) (v : V), Rep K H A d v → Rep K H B d v
  | .none, _, h => by simpa only [Rep] using h
  | .bool b, _, h => by simpa only [Rep] using h
  | .int i, _, h => by simpa only [Rep] using h
  | .str s, _, h => by simpa only [Rep] using h
  | .tuple ds, v, h => by
    simp only [Rep] at h ⊢
    obtain ⟨a, xs, e, h1, h2⟩ := h
    exact ⟨a, xs, e, h1, RepL.anti s ds xs h2⟩
  | .list ds, v, h => by
    simp only [Rep] at h ⊢
    obtain ⟨a, xs, e, na, h1, h2⟩ := h
    exact ⟨a, xs, e, fun z => na (s a z), h1, RepL.anti s ds xs h2⟩
  | .dict kvs, v, h => by
    simp only [Rep] at h ⊢
    obtain ⟨a, ps, e, na, h1, h2⟩ := h
    exact ⟨a, ps, e, fun z => na (s a z), h1, RepP.anti s kvs ps h2⟩
theorem RepL.anti (s : ∀ a, B a → A a) : ∀ (ds : List PyData) (xs : List V), RepL K H A ds xs → RepL K H B ds xs
  | [], _, h => by simpa only [RepL] using h
  | d :: ds, xs, h => by
    simp only [RepL] at h ⊢
    obtain ⟨y, ys, e, h1, h2⟩ := h
    exact ⟨y, ys, e, Rep.anti s d y h1, RepL.anti s ds ys h2⟩
theorem RepP.anti (s : ∀ a, B a → A a) : ∀ (kvs : List (PyData × PyData)) (ps : List (Key × V)), RepP K H A kvs ps → RepP K H B kvs ps
  | [], _, h => by simpa only [RepP] using h
  | (kd, d) :: r, ps, h => by
    simp only [RepP] at h ⊢
    obtain ⟨q, y, ys, e, e2, h1, h2⟩ := h
    exact ⟨q, y, ys, e, e2, Rep.anti s d y h1, RepP.anti s r ys h2⟩
end
mutual
theorem Rep.avoid {D : Addr} (hD : H D = none) : ∀ (d : PyData) (v : V), Rep K H A d v → Rep K H (fun a => A a ∨ a = D) d v
  | .none, _, h => by simpa only [Rep] using h
  | .bool b, _, h => by simpa only [Rep] using h
  | .int i, _, h => by simpa only [Rep] using h
  | .str s, _, h => by simpa only [Rep] using h
  | .tuple ds, v, h => by
    simp only [Rep] at h ⊢
    obtain ⟨a, xs, e, h1, h2⟩ := h
    exact ⟨a, xs, e, h1, RepL.avoid hD ds xs h2⟩
  | .list ds, v, h => by
    simp only [Rep] at h ⊢
    obtain ⟨a, xs, e, na, h1, h2⟩ := h
    exact ⟨a, xs, e, fun z => z.elim na fun q => Rd.there h1 (q ▸ hD), h1, RepL.avoid hD ds xs h2⟩
  | .dict kvs, v, h => by
    simp only [Rep] at h ⊢
    obtain ⟨a, ps, e, na, h1, h2⟩ := h
    refine ⟨a, ps, e, fun z => z.elim na fun q => ?_, h1, RepP.avoid hD kvs ps h2⟩
    rw [q, hD] at h1; cases h1
theorem RepL.avoid {D : Addr} (hD : H D = none) : ∀ (ds : List PyData) (xs : List V), RepL K H A ds xs → RepL K H (fun a => A a ∨ a = D) ds xs
  | [], _, h => by simpa only [RepL] using h
  | d :: ds, xs, h => by
    simp only [RepL] at h ⊢
    obtain ⟨y, ys, e, h1, h2⟩ := h
    exact ⟨y, ys, e, Rep.avoid hD d y h1, RepL.avoid hD ds ys h2⟩
theorem RepP.avoid {D : Addr} (hD : H D = none) : ∀ (kvs : List (PyData × PyData)) (ps : List (Key × V)), RepP K H A kvs ps → RepP K H (fun a => A a ∨ a = D) kvs ps
  | [], _, h => by simpa only [RepP] using h
  | (kd, d) :: r, ps, h => by
    simp only [RepP] at h ⊢
    obtain ⟨q, y, ys, e, e2, h1, h2⟩ := h
    exact ⟨q, y, ys, e, e2, Rep.avoid hD d y h1, RepP.avoid hD r ys h2⟩
end
theorem Rep.mono (ok : AvOk A H) (e : Ex H H') {d : PyData} {v : V} (h : Rep K H A d v) : Rep K H' A d v := Rep.keep ok (Kp.ofEx e) d v h
theorem RepL.mono (ok : AvOk A H) (e : Ex H H') {ds : List PyData} {xs : List V} (h : RepL K H A ds xs) : RepL K H' A ds xs := RepL.keep ok (Kp.ofEx e) ds xs h
theorem RepP.mono (ok : AvOk A H) (e : Ex H H') {ds : List (PyData × PyData)} {xs : List (Key × V)} (h : RepP K H A ds xs) : RepP K H' A ds xs := RepP.keep ok (Kp.ofEx e) ds xs h

theorem RepL.length : ∀ {ds : List PyData} {xs : List V}, RepL K H A ds xs → xs.length = ds.length
  | [], _, h => by simp only [RepL] at h; subst h; rfl
  | d :: ds, xs, h => by
    simp only [RepL] at h
    obtain ⟨y, ys, rfl, _, h2⟩ := h
    simp [RepL.length h2]
theorem RepL.get : ∀ {ds : List PyData} {xs : List V} {i : Nat} {d : PyData}, RepL K H A ds xs → ds[i]? = some d → ∃ v, xs[i]? = some v ∧ Rep K H A d v
  | [], _, i, d, _, e => by simp at e
  | d0 :: ds, xs, i, d, h, e => by
    simp only [RepL] at h
    obtain ⟨y, ys, rfl, h1, h2⟩ := h
    cases i with
    | zero => simp at e; subst e; exact ⟨y, rfl, h1⟩
    | succ i =>
      obtain ⟨v, e1, e2⟩ := RepL.get h2 (i := i) (d := d) (by simpa using e)
      exact ⟨v, by simpa using e1, e2⟩
theorem RepL.back {ds : List PyData} {xs : List V} {i : Nat} {v : V} (h : RepL K H A ds xs) (e : xs[i]? = some v) : ∃ d, ds[i]? = some d ∧ Rep K H A d v := by
  have hl := h.length
  have hi : i < xs.length := (List.getElem?_eq_some_iff.mp e).1
  have hd : ds[i]? = some (ds[i]'(by omega)) := List.getElem?_eq_getElem (by omega)
  obtain ⟨v', e1, r⟩ := h.get hd
  rw [e] at e1; cases e1
  exact ⟨_, hd, r⟩
theorem RepL.append : ∀ {ds es : List PyData} {xs ys : List V}, RepL K H A ds xs → RepL K H A es ys → RepL K H A (ds ++ es) (xs ++ ys)
  | [], es, xs, ys, h, h' => by simp only [RepL] at h; subst h; simpa using h'
  | d :: ds, es, xs, ys, h, h' => by
    simp only [RepL] at h
    obtain ⟨y, zs, rfl, h1, h2⟩ := h
    simp only [List.cons_append, RepL]
    exact ⟨y, _, rfl, h1, RepL.append h2 h'⟩
theorem RepL.one {d : PyData} {v : V} (h : Rep K H A d v) : RepL K H A [d] [v] := by
  simp only [RepL]; exact ⟨v, [], rfl, h, rfl⟩
theorem RepL.nil : RepL K H A [] [] := by simp only [RepL]
theorem RepL.cons {d : PyData} {v : V} {ds : List PyData} {xs : List V} (h : Rep K H A d v) (h' : RepL K H A ds xs) : RepL K H A (d :: ds) (v :: xs) := by
  simp only [RepL]; exact ⟨v, xs, rfl, h, h'⟩
theorem RepL.drop : ∀ {ds : List PyData} {xs : List V} (n : Nat), RepL K H A ds xs → RepL K H A (ds.drop n) (xs.drop n)
  | ds, xs, 0, h => h
  | [], xs, n + 1, h => by simp only [RepL] at h; subst h; exact RepL.nil
  | d :: ds, xs, n + 1, h => by
    simp only [RepL] at h
    obtain ⟨y, ys, rfl, _, h2⟩ := h
    exact RepL.drop n h2
theorem RepL.take : ∀ {ds : List PyData} {xs : List V} (n : Nat), RepL K H A ds xs → RepL K H A (ds.take n) (xs.take n)
  | ds, xs, 0, h => RepL.nil
  | [], xs, n + 1, h => by simp only [RepL] at h; subst h; exact RepL.nil
  | d :: ds, xs, n + 1, h => by
    simp only [RepL] at h
    obtain ⟨y, ys, rfl, h1, h2⟩ := h
    exact RepL.cons h1 (RepL.take n h2)
theorem RepL.set : ∀ {ds : List PyData} {xs : List V} (i : Nat) {d : PyData} {v : V}, RepL K H A ds xs → Rep K H A d v → RepL K H A (ds.set i d) (xs.set i v)
  | [], xs, i, d, v, h, _ => by simp only [RepL] at h; subst h; exact RepL.nil
  | d0 :: ds, xs, i, d, v, h, hd => by
    simp only [RepL] at h
    obtain ⟨y, ys, rfl, h1, h2⟩ := h
    cases i with
    | zero => exact RepL.cons hd h2
    | succ i => exact RepL.cons h1 (RepL.set i h2 hd)
/-- by the places -/
theorem RepL.mk : ∀ {ds : List PyData} {xs : List V}, xs.length = ds.length → (∀ (i : Nat) (d : PyData) (v : V), ds[i]? = some d → xs[i]? = some v → Rep K H A d v) → RepL K H A ds xs
  | [], xs, hl, _ => by
    cases xs with
    | nil => exact RepL.nil
    | cons => simp at hl
  | d :: ds, xs, hl, h => by
    cases xs with
    | nil => simp at hl
    | cons y ys => exact RepL.cons (h 0 d y rfl rfl) (RepL.mk (by simpa using hl) fun i e v h1 h2 => h (i + 1) e v (by simpa using h1) (by simpa using h2))
end

/-! ### the names' data -/
inductive Sl where
  | no
  | val (d : PyData)
  | own (d : PyData)
  | scr (ns : List Int)
abbrev Rho := List Sl
/-- a list or dict whose items are data, itself the slot's own -/
def Top (K : Fg) (H : Hp) (A : Av) (a : Addr) : PyData → Prop
  | .list ds => ∃ xs, H a = some (.lst xs) ∧ RepL K H A ds xs
  | .dict kvs => ∃ ps, H a = some (.dK ps) ∧ RepP K H A kvs ps
  | _ => False
/-- the script: known, or written -/
def Scr (K : Fg) (H : Hp) (a : Addr) (ns : List Int) : Prop := (∃ o, H a = some (.frz o (.lst (ns.map V.int)))) ∨ ∃ (o : Obj) (its : Array Value) (n : Nat), K.lookup a = some o ∧ o.cls = .type "list" ∧ o.dict = none ∧ o.data = .seq its n ∧ its.size ≤ sizeLine ∧ Vals (ns.map V.int) its.toList
theorem Scr.sq {K : Fg} {H : Hp} {a : Addr} {ns : List Int} (h : Scr K H a ns) : SqL K H a (ns.map V.int) := h.elim (fun h => .inl (.inr h)) .inr
theorem Scr.keep {K : Fg} {H H' : Hp} {A : Av} {a : Addr} {ns : List Int} (ok : AvOk A H) (k : Kp A H H') (h : Scr K H a ns) : Scr K H' a ns := by
  rcases h with ⟨o, h⟩ | h
  · refine .inl ⟨o, k a _ h fun ha => ?_⟩
    have := ok a ha
    rw [h] at this; exact this
  · exact .inr h
def SlOk (K : Fg) (H : Hp) (A : Av) : Sl → Option (Option V) → Prop
  | .scr ns, x => ∃ a, x = some (some (.ref a)) ∧ Scr K H a ns
  | .no, _ => True
  | .val d, x => ∃ v, x = some (some v) ∧ Rep K H A d v
  | .own d, x => ∃ a, x = some (some (.ref a)) ∧ Top K H A a d
structure RS (K : Fg) (A : Av) (ρ : Rho) (σ : St) (H : Hp) : Prop where
  len : ρ.length = σ.length
  av : AvOk A H
  at' : ∀ (i : Nat) (s : Sl), ρ[i]? = some s → SlOk K H A s σ[i]?
section
variable {K : Fg} {H H' H1 H2 : Hp} {A B : Av} {ρ : Rho} {σ : St}
theorem Top.mono (ok : AvOk A H) (e : Ex H H') {a : Addr} : ∀ {d : PyData}, Top K H A a d → Top K H' A a d
  | .list ds, h => by
    obtain ⟨xs, h1, h2⟩ := h
    exact ⟨xs, e _ _ h1, h2.mono ok e⟩
  | .dict kvs, h => by
    obtain ⟨ps, h1, h2⟩ := h
    exact ⟨ps, e _ _ h1, h2.mono ok e⟩
  | .none, h => h.elim
  | .bool _, h => h.elim
  | .int _, h => h.elim
  | .str _, h => h.elim
  | .tuple _, h => h.elim
theorem Top.anti (s : ∀ a, B a → A a) {a : Addr} : ∀ {d : PyData}, Top K H A a d → Top K H B a d
  | .list ds, h => by
    obtain ⟨xs, h1, h2⟩ := h
    exact ⟨xs, h1, RepL.anti s _ _ h2⟩
  | .dict kvs, h => by
    obtain ⟨ps, h1, h2⟩ := h
    exact ⟨ps, h1, RepP.anti s _ _ h2⟩
  | .none, h => h.elim
  | .bool _, h => h.elim
  | .int _, h => h.elim
  | .str _, h => h.elim
  | .tuple _, h => h.elim
theorem SlOk.mono (ok : AvOk A H) (e : Ex H H') {x : Option (Option V)} : ∀ {s : Sl}, SlOk K H A s x → SlOk K H' A s x
  | .scr ns, ⟨a, h1, h2⟩ => ⟨a, h1, h2.keep ok (Kp.ofEx e)⟩
  | .no, _ => trivial
  | .val d, ⟨v, h1, h2⟩ => ⟨v, h1, h2.mono ok e⟩
  | .own d, ⟨a, h1, h2⟩ => ⟨a, h1, h2.mono ok e⟩
theorem SlOk.anti (s : ∀ a, B a → A a) {x : Option (Option V)} : ∀ {l : Sl}, SlOk K H A l x → SlOk K H B l x
  | .scr ns, h => h
  | .no, _ => trivial
  | .val d, ⟨v, h1, h2⟩ => ⟨v, h1, Rep.anti s _ _ h2⟩
  | .own d, ⟨a, h1, h2⟩ => ⟨a, h1, h2.anti s⟩
theorem RS.mono (e : Ex H H') (h : RS K A ρ σ H) : RS K A ρ σ H' := ⟨h.len, h.av.mono e, fun i s q => (h.at' i s q).mono h.av e⟩
theorem RS.set (h : RS K A ρ σ H) {i : Nat} {d : PyData} {v : V} (r : Rep K H A d v) : RS K A (ρ.set i (.val d)) (σ.set i (some v)) H := by
  refine ⟨by simp [h.len], h.av, fun j s q => ?_⟩
  by_cases hj : i = j
  · subst hj
    by_cases hi : i < ρ.length
    · rw [List.getElem?_set_self hi] at q
      cases q
      exact ⟨v, by rw [List.getElem?_set_self (by rw [← h.len]; exact hi)], r⟩
    · rw [List.getElem?_eq_none (by simpa using hi)] at q
      cases q
  · rw [List.getElem?_set_ne hj] at q ⊢
    exact h.at' j s q
end

/-! ### readings as functions of data -/
def EvD (K : Fg) (A : Av) (t : TE) (σ : St) (H : Hp) (d : PyData) : Prop := ∀ H1, Ex H H1 → ∀ Q : VK, (∀ v H2, Ex H1 H2 → Rep K H2 A d v → Q v H2) → t σ H1 Q
/-- what may be a name's own list, read -/
def RepB (K : Fg) (H : Hp) (A : Av) (d : PyData) (v : V) : Prop := Rep K H A d v ∨ ∃ a, v = .ref a ∧ Top K H A a d
def EvB (K : Fg) (A : Av) (t : TE) (σ : St) (H : Hp) (d : PyData) : Prop := ∀ H1, Ex H H1 → ∀ Q : VK, (∀ v H2, Ex H1 H2 → RepB K H2 A d v → Q v H2) → t σ H1 Q
def EF (K : Fg) (t : TE) (f : Rho → Option PyData) : Prop := ∀ A ρ σ H d, RS K A ρ σ H → f ρ = some d → EvD K A t σ H d
def EB (K : Fg) (t : TE) (f : Rho → Option PyData) : Prop := ∀ A ρ σ H d, RS K A ρ σ H → f ρ = some d → EvB K A t σ H d
def ET (K : Fg) (t : TT) (f : Rho → Option Bool) : Prop := ∀ A ρ σ H b, RS K A ρ σ H → f ρ = some b → ∀ H1, Ex H H1 → ∀ Q : Bool → Hp → Prop, (∀ H2, Ex H1 H2 → Q b H2) → t σ H1 Q
def EA (K : Fg) (t : TA) (f : Rho → Option (List PyData)) : Prop := ∀ A ρ σ H ds, RS K A ρ σ H → f ρ = some ds → ∀ H1, Ex H H1 → ∀ Q : List V → Hp → Prop, (∀ vs H2, Ex H1 H2 → RepL K H2 A ds vs → Q vs H2) → t σ H1 Q
/-- an operation on values -/
def E2 (K : Fg) (r : R2) (f : PyData → PyData → Option PyData) : Prop := ∀ A H d e x y z, AvOk A H → RepB K H A d x → RepB K H A e y → f d e = some z → ∀ Q : VK, (∀ v H2, Ex H H2 → Rep K H2 A z v → Q v H2) → r x y H Q
def E1 (K : Fg) (r : V → Hp → VK → Prop) (f : PyData → Option PyData) : Prop := ∀ A H d x z, AvOk A H → RepB K H A d x → f d = some z → ∀ Q : VK, (∀ v H2, Ex H H2 → Rep K H2 A z v → Q v H2) → r x H Q
/-- a call on values -/
def EC (K : Fg) (r : List V → Hp → VK → Prop) (f : List PyData → Option PyData) : Prop := ∀ A H ds xs z, AvOk A H → RepL K H A ds xs → f ds = some z → ∀ Q : VK, (∀ v H2, Ex H H2 → Rep K H2 A z v → Q v H2) → r xs H Q

section
variable {K : Fg} {t ta tb te : TE} {f fa fb : Rho → Option PyData}
theorem EF.b (h : EF K t f) : EB K t f := fun A ρ σ H d rs e H1 e1 Q q => h A ρ σ H d rs e H1 e1 Q fun v H2 e2 r => q v H2 e2 (.inl r)

/-! names and constants -/
def gv (i : Nat) (ρ : Rho) : Option PyData := match ρ[i]? with
  | some (.val d) => some d
  | _ => none
def gb (i : Nat) (ρ : Rho) : Option PyData := match ρ[i]? with
  | some (.val d) => some d
  | some (.own d) => some d
  | _ => none
theorem ef_var (i : Nat) : EF K (tVar i) (gv i) := fun A ρ σ H d rs e H1 e1 Q q => by
  unfold gv at e
  split at e
  · rename_i d' h
    cases e
    obtain ⟨v, hv, r⟩ := rs.at' i _ h
    exact ⟨v, hv, q v H1 (Ex.refl _) (r.mono rs.av e1)⟩
  · cases e
theorem eb_var (i : Nat) : EB K (tVar i) (gb i) := fun A ρ σ H d rs e H1 e1 Q q => by
  unfold gb at e
  split at e
  · rename_i d' h
    cases e
    obtain ⟨v, hv, r⟩ := rs.at' i _ h
    exact ⟨v, hv, q v H1 (Ex.refl _) (.inl (r.mono rs.av e1))⟩
  · rename_i d' h
    cases e
    obtain ⟨a, hv, r⟩ := rs.at' i _ h
    exact ⟨.ref a, hv, q _ H1 (Ex.refl _) (.inr ⟨a, rfl, r.mono rs.av e1⟩)⟩
  · cases e
theorem ef_c {v : V} {d : PyData} (h : ∀ H A, Rep K H A d v) : EF K (tC v) (fun _ => some d) := fun A ρ σ H d' rs e H1 e1 Q q => by
  cases e
  exact q v H1 (Ex.refl _) (h H1 A)
theorem ef_int {i : Int} : EF K (tC (.int i)) (fun _ => some (.int i)) := ef_c fun _ _ => by simp only [Rep]
theorem ef_str {i : Str} : EF K (tC (.str i)) (fun _ => some (.str i)) := ef_c fun _ _ => by simp only [Rep]
theorem ef_bl {i : Bool} : EF K (tC (.bl i)) (fun _ => some (.bool i)) := ef_c fun _ _ => by simp only [Rep]
theorem ef_non : EF K (tC .non) (fun _ => some .none) := ef_c fun _ _ => by simp only [Rep]

/-! operations -/
def bnd2 {α β γ : Type} (a : Option α) (b : Option β) (g : α → β → Option γ) : Option γ := match a with
  | none => none
  | some x => match b with
    | none => none
    | some y => g x y
theorem bnd2_some {α β γ : Type} {a : Option α} {b : Option β} {g : α → β → Option γ} {z : γ} (h : bnd2 a b g = some z) : ∃ x y, a = some x ∧ b = some y ∧ g x y = some z := by
  unfold bnd2 at h
  split at h
  · cases h
  · split at h
    · cases h
    · exact ⟨_, _, rfl, rfl, h⟩
theorem bind_some' {α β : Type} {a : Option α} {g : α → Option β} {z : β} (h : a.bind g = some z) : ∃ x, a = some x ∧ g x = some z := by
  cases a with
  | none => cases h
  | some x => exact ⟨x, rfl, h⟩
theorem RepB.mono {H H' : Hp} {A : Av} {d : PyData} {v : V} (ok : AvOk A H) (e : Ex H H') (h : RepB K H A d v) : RepB K H' A d v := by
  rcases h with h | ⟨a, e1, h⟩
  · exact .inl (h.mono ok e)
  · exact .inr ⟨a, e1, h.mono ok e⟩
theorem ef_op {r : R2} {g : PyData → PyData → Option PyData} (h : E2 K r g) (ha : EB K ta fa) (hb : EB K tb fb) : EF K (tOp r ta tb) (fun ρ => bnd2 (fa ρ) (fb ρ) g) := fun A ρ σ H d rs e H1 e1 Q q => by
  obtain ⟨x, y, ex, ey, eg⟩ := bnd2_some e
  refine ha A ρ σ H x rs ex H1 e1 _ fun v H2 e2 r2 => ?_
  have av2 := (rs.av.mono e1).mono e2
  refine hb A ρ σ H y rs ey H2 (e1.trans e2) _ fun w H3 e3 r3 => ?_
  exact h A H3 x y v w d (av2.mono e3) (r2.mono av2 e3) r3 eg Q fun v H4 e4 r4 => q v H4 ((e2.trans e3).trans e4) r4
theorem ef_un {r : V → Hp → VK → Prop} {g : PyData → Option PyData} (h : E1 K r g) (ha : EB K ta fa) : EF K (tUn r ta) (fun ρ => (fa ρ).bind g) := fun A ρ σ H d rs e H1 e1 Q q => by
  obtain ⟨x, ex, eg⟩ := bind_some' e
  refine ha A ρ σ H x rs ex H1 e1 _ fun v H2 e2 r2 => ?_
  exact h A H2 x v d ((rs.av.mono e1).mono e2) r2 eg Q fun v H4 e4 r4 => q v H4 (e2.trans e4) r4
theorem ea_nil : EA K tNil (fun _ => some []) := fun A ρ σ H ds rs e H1 e1 Q q => by
  cases e
  exact q [] H1 (Ex.refl _) RepL.nil
def consD (d : PyData) (ds : List PyData) : Option (List PyData) := some (d :: ds)
theorem ea_cons {tr : TA} {fr : Rho → Option (List PyData)} (ha : EF K ta fa) (hr : EA K tr fr) : EA K (tCons ta tr) (fun ρ => bnd2 (fa ρ) (fr ρ) consD) := fun A ρ σ H d rs e H1 e1 Q q => by
  obtain ⟨x, y, ex, ey, eg⟩ := bnd2_some e
  cases eg
  refine ha A ρ σ H x rs ex H1 e1 _ fun v H2 e2 r2 => ?_
  have av2 := (rs.av.mono e1).mono e2
  refine hr A ρ σ H y rs ey H2 (e1.trans e2) _ fun vs H3 e3 r3 => ?_
  exact q _ H3 (e2.trans e3) (RepL.cons (r2.mono av2 e3) r3)
theorem ef_cb {r : List V → Hp → VK → Prop} {g : List PyData → Option PyData} {tr : TA} {fr : Rho → Option (List PyData)} (h : EC K r g) (ha : EA K tr fr) : EF K (tCB r tr) (fun ρ => (fr ρ).bind g) := fun A ρ σ H d rs e H1 e1 Q q => by
  obtain ⟨x, ex, eg⟩ := bind_some' e
  refine ha A ρ σ H x rs ex H1 e1 _ fun vs H2 e2 r2 => ?_
  exact h A H2 x vs d ((rs.av.mono e1).mono e2) r2 eg Q fun v H4 e4 r4 => q v H4 (e2.trans e4) r4
def lenOk (n : Nat) : Bool := decide (n ≤ sizeLine)
def tupD (ds : List PyData) : Option PyData := if lenOk ds.length then some (.tuple ds) else none
def lstD (ds : List PyData) : Option PyData := if lenOk ds.length then some (.list ds) else none
theorem ef_tup {tr : TA} {fr : Rho → Option (List PyData)} (ha : EA K tr fr) : EF K (tTup tr) (fun ρ => (fr ρ).bind tupD) := fun A ρ σ H d rs e H1 e1 Q q => by
  obtain ⟨x, ex, eg⟩ := bind_some' e
  unfold tupD at eg
  split at eg
  · rename_i hl
    cases eg
    refine ha A ρ σ H x rs ex H1 e1 _ fun vs H2 e2 r2 => ⟨by rw [r2.length]; exact of_decide_eq_true hl, fun p hp => ?_⟩
    have av2 := (rs.av.mono e1).mono e2
    refine q _ _ (e2.trans (Ex.new hp)) ?_
    simp only [Rep]
    exact ⟨p, vs, rfl, SqT.of upd_same, r2.mono av2 (Ex.new hp)⟩
  · cases eg
/-! tests -/
def asB : PyData → Option Bool
  | .bool b => some b
  | _ => none
theorem asB_some {d : PyData} {b : Bool} (h : asB d = some b) : d = .bool b := by
  cases d <;> simp [asB] at h
  subst h; rfl
theorem et_test (h : EF K te f) : ET K (tTest te) (fun ρ => (f ρ).bind asB) := fun A ρ σ H b rs e H1 e1 Q q => by
  obtain ⟨x, ex, eg⟩ := bind_some' e
  cases asB_some eg
  refine h A ρ σ H _ rs ex H1 e1 _ fun v H2 e2 r => ⟨b, by simpa only [Rep] using r, q H2 e2⟩
theorem et_B (h : EF K te f) : ET K (tB te) (fun ρ => (f ρ).bind asB) := fun A ρ σ H b rs e H1 e1 Q q => by
  obtain ⟨x, ex, eg⟩ := bind_some' e
  cases asB_some eg
  refine h A ρ σ H _ rs ex H1 e1 _ fun v H2 e2 r => ⟨b, by simpa only [Rep] using r, q H2 e2⟩
def andB (a : Option Bool) (b : Option Bool) : Option Bool := match a with
  | some true => b
  | some false => some false
  | none => none
def orB (a : Option Bool) (b : Option Bool) : Option Bool := match a with
  | some true => some true
  | some false => b
  | none => none
theorem et_and {t u : TT} {f g : Rho → Option Bool} (h1 : ET K t f) (h2 : ET K u g) : ET K (tAnd t u) (fun ρ => andB (f ρ) (g ρ)) := fun A ρ σ H b rs e H1 e1 Q q => by
  dsimp only [andB] at e
  split at e
  · rename_i h
    refine h1 A ρ σ H true rs h H1 e1 _ fun H2 e2 => ?_
    exact h2 A ρ σ H b rs e H2 (e1.trans e2) Q fun H3 e3 => q H3 (e2.trans e3)
  · rename_i h
    cases e
    refine h1 A ρ σ H false rs h H1 e1 _ fun H2 e2 => ?_
    exact q H2 e2
  · cases e
theorem et_or {t u : TT} {f g : Rho → Option Bool} (h1 : ET K t f) (h2 : ET K u g) : ET K (tOr t u) (fun ρ => orB (f ρ) (g ρ)) := fun A ρ σ H b rs e H1 e1 Q q => by
  dsimp only [orB] at e
  split at e
  · rename_i h
    cases e
    refine h1 A ρ σ H true rs h H1 e1 _ fun H2 e2 => ?_
    exact q H2 e2
  · rename_i h
    refine h1 A ρ σ H false rs h H1 e1 _ fun H2 e2 => ?_
    exact h2 A ρ σ H b rs e H2 (e1.trans e2) Q fun H3 e3 => q H3 (e2.trans e3)
  · cases e
theorem et_not {t : TT} {f : Rho → Option Bool} (h1 : ET K t f) : ET K (tNot t) (fun ρ => (f ρ).map not) := fun A ρ σ H b rs e H1 e1 Q q => by
  cases hf : f ρ with
  | none => simp only [hf] at e; cases e
  | some c =>
    simp only [hf] at e
    cases e
    exact h1 A ρ σ H c rs hf H1 e1 _ fun H2 e2 => q H2 e2
theorem et_yes : ET K tYes (fun _ => some true) := fun A ρ σ H b rs e H1 e1 Q q => by
  cases e
  exact q H1 (Ex.refl _)
def andV (a b : Option PyData) : Option PyData := match a with
  | some (.bool true) => b
  | some (.bool false) => some (.bool false)
  | _ => none
def orV (a b : Option PyData) : Option PyData := match a with
  | some (.bool true) => some (.bool true)
  | some (.bool false) => b
  | _ => none
theorem ef_andV (h1 : EF K ta fa) (h2 : EF K tb fb) : EF K (tAndV ta tb) (fun ρ => andV (fa ρ) (fb ρ)) := fun A ρ σ H d rs e H1 e1 Q q => by
  dsimp only [andV] at e
  split at e
  · rename_i h
    refine h1 A ρ σ H _ rs h H1 e1 _ fun v H2 e2 r => ⟨true, by simpa only [Rep] using r, ?_⟩
    exact h2 A ρ σ H d rs e H2 (e1.trans e2) Q fun v H3 e3 r => q v H3 (e2.trans e3) r
  · rename_i h
    cases e
    refine h1 A ρ σ H _ rs h H1 e1 _ fun v H2 e2 r => ⟨false, by simpa only [Rep] using r, ?_⟩
    exact q _ H2 e2 (by simp only [Rep])
  · cases e
theorem ef_orV (h1 : EF K ta fa) (h2 : EF K tb fb) : EF K (tOrV ta tb) (fun ρ => orV (fa ρ) (fb ρ)) := fun A ρ σ H d rs e H1 e1 Q q => by
  dsimp only [orV] at e
  split at e
  · rename_i h
    cases e
    refine h1 A ρ σ H _ rs h H1 e1 _ fun v H2 e2 r => ⟨true, by simpa only [Rep] using r, ?_⟩
    exact q _ H2 e2 (by simp only [Rep])
  · rename_i h
    refine h1 A ρ σ H _ rs h H1 e1 _ fun v H2 e2 r => ⟨false, by simpa only [Rep] using r, ?_⟩
    exact h2 A ρ σ H d rs e H2 (e1.trans e2) Q fun v H3 e3 r => q v H3 (e2.trans e3) r
  · cases e
theorem ef_notV (h1 : EF K ta fa) : EF K (tNotV ta) (fun ρ => ((fa ρ).bind asB).map fun b => .bool (!b)) := fun A ρ σ H d rs e H1 e1 Q q => by
  cases h : (fa ρ).bind asB with
  | none => simp only [h] at e; cases e
  | some b =>
    simp only [h] at e
    cases e
    obtain ⟨x, ex, eg⟩ := bind_some' h
    cases asB_some eg
    refine h1 A ρ σ H _ rs ex H1 e1 _ fun v H2 e2 r => ⟨b, by simpa only [Rep] using r, q _ H2 e2 (by simp only [Rep])⟩
end
end Sv

/-! Statements, loops, comprehensions, calls, as functions of data. -/
namespace Sv
open PySem L2 Evl

section
variable {K : Fg} {H H' H1 H2 : Hp} {A B : Av}
mutual
theorem Rep.keep2 (ok : AvOk A H) (k : Kp A H H') (hb : ∀ a, B a → A a ∨ H a = none) : ∀ (d : PyData) (v : V), Rep K H A d v → Rep K H' B d v
  | .none, _, h => by simpa only [Rep] using h
  | .bool b, _, h => by simpa only [Rep] using h
  | .int i, _, h => by simpa only [Rep] using h
  | .str s, _, h => by simpa only [Rep] using h
  | .tuple ds, v, h => by
    simp only [Rep] at h ⊢
    obtain ⟨a, xs, e, h1, h2⟩ := h
    exact ⟨a, xs, e, SqT.keep ok k h1, RepL.keep2 ok k hb ds xs h2⟩
  | .list ds, v, h => by
    simp only [Rep] at h ⊢
    obtain ⟨a, xs, e, na, h1, h2⟩ := h
    exact ⟨a, xs, e, fun z => (hb a z).elim na (Rd.there h1), Rd.keepN k na h1, RepL.keep2 ok k hb ds xs h2⟩
  | .dict kvs, v, h => by
    simp only [Rep] at h ⊢
    obtain ⟨a, ps, e, na, h1, h2⟩ := h
    exact ⟨a, ps, e, fun z => (hb a z).elim na fun q => (by rw [q] at h1; cases h1), k a _ h1 na, RepP.keep2 ok k hb kvs ps h2⟩
theorem RepL.keep2 (ok : AvOk A H) (k : Kp A H H') (hb : ∀ a, B a → A a ∨ H a = none) : ∀ (ds : List PyData) (xs : List V), RepL K H A ds xs → RepL K H' B ds xs
  | [], _, h => by simpa only [RepL] using h
  | d :: ds, xs, h => by
    simp only [RepL] at h ⊢
    obtain ⟨y, ys, e, h1, h2⟩ := h
    exact ⟨y, ys, e, Rep.keep2 ok k hb d y h1, RepL.keep2 ok k hb ds ys h2⟩
theorem RepP.keep2 (ok : AvOk A H) (k : Kp A H H') (hb : ∀ a, B a → A a ∨ H a = none) : ∀ (kvs : List (PyData × PyData)) (ps : List (Key × V)), RepP K H A kvs ps → RepP K H' B kvs ps
  | [], _, h => by simpa only [RepP] using h
  | (kd, d) :: r, ps, h => by
    simp only [RepP] at h ⊢
    obtain ⟨q, y, ys, e, e2, h1, h2⟩ := h
    exact ⟨q, y, ys, e, e2, Rep.keep2 ok k hb d y h1, RepP.keep2 ok k hb r ys h2⟩
end
end

/-! ### targets -/
def setsS (σ : St) : List Nat → List V → St
  | i :: is, v :: vs => setsS (σ.set i (some v)) is vs
  | _, _ => σ
def setsR (ρ : Rho) : List Nat → List PyData → Rho
  | i :: is, d :: ds => setsR (ρ.set i (.val d)) is ds
  | _, _ => ρ
structure EG (K : Fg) (g : TG) (is : List Nat) (h : PyData → Option (List PyData)) : Prop where
  len : ∀ d es, h d = some es → es.length = is.length
  run : ∀ A σ H d v es, AvOk A H → Rep K H A d v → h d = some es → ∀ Q : St → Hp → Prop, (∀ vs, RepL K H A es vs → Q (setsS σ is vs) H) → g v σ H Q
structure EGs (K : Fg) (g : TGs) (is : List Nat) (h : List PyData → Option (List PyData)) : Prop where
  len : ∀ d es, h d = some es → es.length = is.length
  run : ∀ A σ H d v es, AvOk A H → RepL K H A d v → h d = some es → ∀ Q : St → Hp → Prop, (∀ vs, RepL K H A es vs → Q (setsS σ is vs) H) → g v σ H Q
theorem setsS_append : ∀ (is js : List Nat) (vs ws : List V) (σ : St), is.length = vs.length → setsS (setsS σ is vs) js ws = setsS σ (is ++ js) (vs ++ ws)
  | [], js, [], ws, σ, _ => rfl
  | [], js, _ :: _, ws, σ, h => by simp at h
  | _ :: _, js, [], ws, σ, h => by simp at h
  | i :: is, js, v :: vs, ws, σ, h => by
    show setsS (setsS (σ.set i (some v)) is vs) js ws = setsS (σ.set i (some v)) (is ++ js) (vs ++ ws)
    exact setsS_append is js vs ws _ (by simpa using h)
section
variable {K : Fg}
def tg1 (d : PyData) : Option (List PyData) := some [d]
def tgN : List PyData → Option (List PyData)
  | [] => some []
  | _ => none
def tgC (f : PyData → Option (List PyData)) (fs : List PyData → Option (List PyData)) : List PyData → Option (List PyData)
  | [] => none
  | d :: r => bnd2 (f d) (fs r) fun p q => some (p ++ q)
def tgT (n : Nat) (fs : List PyData → Option (List PyData)) : PyData → Option (List PyData)
  | .tuple ds => if ds.length = n then fs ds else none
  | _ => none
theorem eg_name (i : Nat) : EG K (gName i) [i] tg1 :=
  ⟨fun d es e => by cases e; rfl, fun A σ H d v es ok r e Q q => by
    cases e
    exact q [v] (RepL.one r)⟩
theorem egs_nil : EGs K gNil [] tgN := by
  refine ⟨fun d es e => ?_, fun A σ H d v es ok r e Q q => ?_⟩ <;> unfold tgN at e
  · split at e
    · cases e; rfl
    · cases e
  · split at e
    · cases e
      simp only [RepL] at r
      subst r
      exact ⟨rfl, q [] RepL.nil⟩
    · cases e
theorem egs_cons {g : TG} {u : TGs} {is js : List Nat} {f : PyData → Option (List PyData)} {fs : List PyData → Option (List PyData)} (h1 : EG K g is f) (h2 : EGs K u js fs) :
    EGs K (gCons g u) (is ++ js) (tgC f fs) := by
  refine ⟨fun d es e => ?_, fun A σ H d v es ok r e Q q => ?_⟩ <;> unfold tgC at e
  · split at e
    · cases e
    · obtain ⟨x, y, e1, e2, e3⟩ := bnd2_some e
      cases e3
      simp [h1.len _ _ e1, h2.len _ _ e2]
  · split at e
    · cases e
    · obtain ⟨x, y, e1, e2, e3⟩ := bnd2_some e
      cases e3
      simp only [RepL] at r
      obtain ⟨w, ws, rfl, r1, r2⟩ := r
      refine ⟨w, ws, rfl, h1.run A σ H _ w x ok r1 e1 _ fun vs hv => ?_⟩
      refine h2.run A _ H _ ws y ok r2 e2 _ fun us hu => ?_
      rw [setsS_append _ _ _ _ _ (by rw [hv.length, h1.len _ _ e1])]
      exact q _ (hv.append hu)
theorem eg_tup {n : Nat} {u : TGs} {is : List Nat} {fs : List PyData → Option (List PyData)} (h : EGs K u is fs) : EG K (gTup K n u) is (tgT n fs) := by
  refine ⟨fun d es e => ?_, fun A σ H d v es ok r e Q q => ?_⟩ <;> unfold tgT at e
  · split at e
    · split at e
      · exact h.len _ _ e
      · cases e
    · cases e
  · split at e
    · split at e
      · rename_i hl
        simp only [Rep] at r
        obtain ⟨a, xs, rfl, h1, h2⟩ := r
        exact ⟨a, xs, rfl, h1, by rw [h2.length, hl], h.run A σ H _ xs es ok h2 e Q q⟩
      · cases e
    · cases e
end

/-! ### the state -/
def Avd (O : Av) (ρ : Rho) (ow : Nat → Addr) : Av := fun x => O x ∨ ∃ i d, ρ[i]? = some (.own d) ∧ x = ow i
structure SR (K : Fg) (Hb : Hp) (O : Av) (ow : Nat → Addr) (ρ : Rho) (σ : St) (H : Hp) : Prop where
  rs : RS K (Avd O ρ ow) ρ σ H
  ex : Ex Hb H
  ob : AvOk O Hb
  own : ∀ i d, ρ[i]? = some (.own d) → σ[i]? = some (some (.ref (ow i))) ∧ Hb (ow i) = none
  inj : ∀ i j d e, ρ[i]? = some (.own d) → ρ[j]? = some (.own e) → ow i = ow j → i = j
inductive Res where
  | nx (ρ : Rho)
  | ret (d : PyData)
  | brk (ρ : Rho)
  | ct (ρ : Rho)
def Fin (K : Fg) (Hb : Hp) (O : Av) (D : Ends) : Res → Prop
  | .nx ρ => ∀ ow σ H, SR K Hb O ow ρ σ H → D.nx σ H
  | .ret d => ∀ v H, Ex Hb H → Rep K H O d v → D.rt v H
  | .brk ρ => ∀ ow σ H, SR K Hb O ow ρ σ H → D.bk σ H
  | .ct ρ => ∀ ow σ H, SR K Hb O ow ρ σ H → D.ct σ H
def ES (K : Fg) (t : TS) (f : Rho → Option Res) : Prop := ∀ Hb O ow ρ σ H r D, SR K Hb O ow ρ σ H → f ρ = some r → Fin K Hb O D r → t D σ H
section
variable {K : Fg} {Hb H H' H1 H2 : Hp} {O A B : Av} {ow : Nat → Addr} {ρ : Rho} {σ : St} {D : Ends} {r : Res}
theorem SR.mono (e : Ex H H') (h : SR K Hb O ow ρ σ H) : SR K Hb O ow ρ σ H' := ⟨h.rs.mono e, h.ex.trans e, h.ob, h.own, h.inj⟩
theorem own_set {i j : Nat} {d e : PyData} (h : (ρ.set i (.val d))[j]? = some (.own e)) : j ≠ i ∧ ρ[j]? = some (.own e) := by
  by_cases hj : i = j
  · subst hj
    by_cases hi : i < ρ.length
    · rw [List.getElem?_set_self hi] at h; cases h
    · rw [List.getElem?_eq_none (by simpa using hi)] at h; cases h
  · rw [List.getElem?_set_ne hj] at h
    exact ⟨fun z => hj z.symm, h⟩
theorem RS.anti (s : ∀ a, B a → A a) (h : RS K A ρ σ H) : RS K B ρ σ H := ⟨h.len, fun a ha => h.av a (s a ha), fun i l q => (h.at' i l q).anti s⟩
theorem Avd.set {i : Nat} {d : PyData} : ∀ a, Avd O (ρ.set i (.val d)) ow a → Avd O ρ ow a := fun a h => by
  rcases h with h | ⟨j, e, h1, h2⟩
  · exact .inl h
  · exact .inr ⟨j, e, (own_set h1).2, h2⟩
theorem SR.setV {i : Nat} {d : PyData} {v : V} (h : SR K Hb O ow ρ σ H) (r : Rep K H (Avd O ρ ow) d v) : SR K Hb O ow (ρ.set i (.val d)) (σ.set i (some v)) H := by
  refine ⟨(h.rs.set r).anti Avd.set, h.ex, h.ob, fun j e q => ?_, fun j k e e' q q' => ?_⟩
  · obtain ⟨hj, q⟩ := own_set q
    rw [List.getElem?_set_ne (Ne.symm hj)]
    exact h.own j e q
  · exact h.inj j k e e' (own_set q).2 (own_set q').2
theorem SR.sets : ∀ {is : List Nat} {ds : List PyData} {vs : List V} {ρ : Rho} {σ : St}, SR K Hb O ow ρ σ H → RepL K H (Avd O ρ ow) ds vs → SR K Hb O ow (setsR ρ is ds) (setsS σ is vs) H
  | [], ds, vs, ρ, σ, h, r => h
  | i :: is, [], vs, ρ, σ, h, r => by
    simp only [RepL] at r
    subst r
    exact h
  | i :: is, d :: ds, vs, ρ, σ, h, r => by
    simp only [RepL] at r
    obtain ⟨v, ws, rfl, r1, r2⟩ := r
    exact SR.sets (is := is) (ds := ds) (vs := ws) (ρ := ρ.set i (.val d)) (σ := σ.set i (some v)) (h.setV r1) (RepL.anti Avd.set _ _ r2)
theorem RS.sets : ∀ {is : List Nat} {ds : List PyData} {vs : List V} {ρ : Rho} {σ : St}, RS K A ρ σ H → RepL K H A ds vs → RS K A (setsR ρ is ds) (setsS σ is vs) H
  | [], ds, vs, ρ, σ, h, r => h
  | i :: is, [], vs, ρ, σ, h, r => by
    simp only [RepL] at r
    subst r
    exact h
  | i :: is, d :: ds, vs, ρ, σ, h, r => by
    simp only [RepL] at r
    obtain ⟨v, ws, rfl, r1, r2⟩ := r
    exact RS.sets (is := is) (ds := ds) (vs := ws) (ρ := ρ.set i (.val d)) (σ := σ.set i (some v)) (h.set r1) r2
/-- the base may be less -/
theorem SR.base {Hc : Hp} (e : Ex Hb Hc) (ob : AvOk O Hb) (h : SR K Hc O ow ρ σ H) : SR K Hb O ow ρ σ H :=
  ⟨h.rs, e.trans h.ex, ob, fun i d q => ⟨(h.own i d q).1, fresh_back e (h.own i d q).2⟩, h.inj⟩
theorem Fin.base {Hc : Hp} (e : Ex Hb Hc) (ob : AvOk O Hb) (h : Fin K Hb O D r) : Fin K Hc O D r := by
  cases r with
  | nx ρ => exact fun ow σ H s => h ow σ H (s.base e ob)
  | ret d => exact fun v H x q => h v H (e.trans x) q
  | brk ρ => exact fun ow σ H s => h ow σ H (s.base e ob)
  | ct ρ => exact fun ow σ H s => h ow σ H (s.base e ob)
open Classical in
/-- the heap without the names' own -/
noncomputable def less (ρ : Rho) (ow : Nat → Addr) (H : Hp) : Hp := fun b => if ∃ i d, ρ[i]? = some (.own d) ∧ b = ow i then none else H b
theorem less_own {i : Nat} {d : PyData} (q : ρ[i]? = some (.own d)) : less ρ ow H (ow i) = none := by
  unfold less; rw [if_pos ⟨i, d, q, rfl⟩]
theorem less_not {b : Addr} (n : ¬ ∃ i d, ρ[i]? = some (.own d) ∧ b = ow i) : less ρ ow H b = H b := by
  unfold less; rw [if_neg n]
theorem less_ex : Ex (less ρ ow H) H := fun b o e => by
  unfold less at e
  split at e
  · cases e
  · exact e
theorem SR.rebase (h : SR K Hb O ow ρ σ H) : SR K (less ρ ow H) O ow ρ σ H ∧ Ex Hb (less ρ ow H) := by
  have notown : ∀ b o, Hb b = some o → ¬ ∃ i d, ρ[i]? = some (.own d) ∧ b = ow i := fun b o e ⟨i, d, q, z⟩ => by
    rw [z, (h.own i d q).2] at e; cases e
  have e : Ex Hb (less ρ ow H) := fun b o q => by rw [less_not (notown b o q)]; exact h.ex b o q
  exact ⟨⟨h.rs, less_ex, h.ob.mono e, fun i d q => ⟨(h.own i d q).1, less_own q⟩, h.inj⟩, e⟩
end

/-! ### statements -/
section
variable {K : Fg} {t u : TS} {f g : Rho → Option Res} {te ta : TE} {fe fa : Rho → Option PyData}
theorem es_next : ES K tNext (fun ρ => some (.nx ρ)) := fun Hb O ow ρ σ H r D sr e fin => by
  cases e
  exact fin ow σ H sr
def seqR (a : Option Res) (g : Rho → Option Res) : Option Res := match a with
  | some (.nx ρ) => g ρ
  | x => x
theorem es_seq (h1 : ES K t f) (h2 : ES K u g) : ES K (tSeq t u) (fun ρ => seqR (f ρ) g) := fun Hb O ow ρ σ H r D sr e fin => by
  dsimp only at e
  cases hf : f ρ with
  | none => rw [hf] at e; cases e
  | some r1 =>
    rw [hf] at e
    cases r1 with
    | nx ρ' => exact h1 Hb O ow ρ σ H _ _ sr hf fun ow' σ' H' sr' => h2 Hb O ow' ρ' σ' H' r D sr' e fin
    | ret d => cases e; exact h1 Hb O ow ρ σ H _ _ sr hf fin
    | brk ρ' => cases e; exact h1 Hb O ow ρ σ H _ _ sr hf fin
    | ct ρ' => cases e; exact h1 Hb O ow ρ σ H _ _ sr hf fin
theorem es_break : ES K tBreak (fun ρ => some (.brk ρ)) := fun Hb O ow ρ σ H r D sr e fin => by
  cases e
  exact fin ow σ H sr
theorem es_cont : ES K tCont (fun ρ => some (.ct ρ)) := fun Hb O ow ρ σ H r D sr e fin => by
  cases e
  exact fin ow σ H sr
def asgR (i : Nat) (ρ : Rho) (o : Option PyData) : Option Res := o.map fun d => .nx (ρ.set i (.val d))
def asgO (i : Nat) (ρ : Rho) (o : Option PyData) : Option Res := o.map fun d => .nx (ρ.set i (.own d))
def asgG (is : List Nat) (h : PyData → Option (List PyData)) (ρ : Rho) (o : Option PyData) : Option Res := o.bind fun d => (h d).map fun es => .nx (setsR ρ is es)
def retR (o : Option PyData) : Option Res := o.map .ret
def ifR (c : Option Bool) (a b : Option Res) : Option Res := c.bind fun k => if k then a else b
def dropR (ρ : Rho) (o : Option PyData) : Option Res := o.map fun _ => .nx ρ
theorem es_asg {i : Nat} (h : EF K te fe) : ES K (tAsg te (gName i)) (fun ρ => asgR i ρ (fe ρ)) := fun Hb O ow ρ σ H r D sr e fin => by
  unfold asgR at e
  cases he : fe ρ with
  | none => simp only [he] at e; cases e
  | some d =>
    simp only [he] at e
    cases e
    exact h _ ρ σ H d sr.rs he H (Ex.refl _) _ fun v H2 e2 rv => fin ow _ H2 ((sr.mono e2).setV rv)
theorem es_asgG {gg : TG} {is : List Nat} {hh : PyData → Option (List PyData)} (h : EF K te fe) (hg : EG K gg is hh) : ES K (tAsg te gg) (fun ρ => asgG is hh ρ (fe ρ)) := fun Hb O ow ρ σ H r D sr e fin => by
  unfold asgG at e
  obtain ⟨d, he, e⟩ := bind_some' e
  cases hd : hh d with
  | none => simp only [hd] at e; cases e
  | some es =>
    simp only [hd] at e
    cases e
    refine h _ ρ σ H d sr.rs he H (Ex.refl _) _ fun v H2 e2 rv => ?_
    exact hg.run _ σ H2 d v es (sr.rs.av.mono e2) rv hd _ fun vs rl => fin ow _ H2 ((sr.mono e2).sets rl)
theorem es_ret (h : EF K te fe) : ES K (tRet te) (fun ρ => retR (fe ρ)) := fun Hb O ow ρ σ H r D sr e fin => by
  unfold retR at e
  cases he : fe ρ with
  | none => simp only [he] at e; cases e
  | some d =>
    simp only [he] at e
    cases e
    exact h _ ρ σ H d sr.rs he H (Ex.refl _) _ fun v H2 e2 rv => fin v H2 (sr.ex.trans e2) (Rep.anti (fun a z => .inl z) _ _ rv)
theorem es_retN : ES K tRetN (fun ρ => some (.ret .none)) := fun Hb O ow ρ σ H r D sr e fin => by
  cases e
  exact fin .non H sr.ex (by simp only [Rep])
theorem es_if {c : TT} {fc : Rho → Option Bool} (hc : ET K c fc) (h1 : ES K t f) (h2 : ES K u g) : ES K (tIfS c t u) (fun ρ => ifR (fc ρ) (f ρ) (g ρ)) := fun Hb O ow ρ σ H r D sr e fin => by
  unfold ifR at e
  obtain ⟨b, hb, e⟩ := bind_some' e
  refine hc _ ρ σ H b sr.rs hb H (Ex.refl _) _ fun H2 e2 => ?_
  cases b with
  | true => exact h1 Hb O ow ρ σ H2 r D (sr.mono e2) e fin
  | false => exact h2 Hb O ow ρ σ H2 r D (sr.mono e2) e fin
theorem es_drop (h : EF K te fe) : ES K (tDrop te) (fun ρ => dropR ρ (fe ρ)) := fun Hb O ow ρ σ H r D sr e fin => by
  unfold dropR at e
  cases he : fe ρ with
  | none => simp only [he] at e; cases e
  | some d =>
    simp only [he] at e
    cases e
    exact h _ ρ σ H d sr.rs he H (Ex.refl _) _ fun v H2 e2 rv => fin ow σ H2 (sr.mono e2)
/-! a new list, the name's own -/
def EN (K : Fg) (t : TE) (f : Rho → Option PyData) : Prop := ∀ A ρ σ H d, RS K A ρ σ H → f ρ = some d → ∀ H1, Ex H H1 → ∀ Q : VK, (∀ a H2, H1 a = none → Ex H1 H2 → Top K H2 (fun x => A x ∨ x = a) a d → Q (.ref a) H2) → t σ H1 Q
theorem Top.rep {H : Hp} {A : Av} {a : Addr} (na : ¬ A a) : ∀ {d : PyData}, Top K H A a d → Rep K H A d (.ref a)
  | .list ds, h => by
    obtain ⟨xs, h1, h2⟩ := h
    simp only [Rep]
    exact ⟨a, xs, rfl, na, .inl h1, h2⟩
  | .dict kvs, h => by
    obtain ⟨ps, h1, h2⟩ := h
    simp only [Rep]
    exact ⟨a, ps, rfl, na, h1, h2⟩
  | .none, h => h.elim
  | .bool _, h => h.elim
  | .int _, h => h.elim
  | .str _, h => h.elim
  | .tuple _, h => h.elim
theorem EN.ef (h : EN K te fe) : EF K te fe := fun A ρ σ H d rs e H1 e1 Q q => h A ρ σ H d rs e H1 e1 Q fun a H2 ha e2 tp => q _ H2 e2 ((tp.anti fun _ z => .inl z).rep ((rs.av.mono e1).fresh ha))
theorem en_lst {tr : TA} {fr : Rho → Option (List PyData)} (ha : EA K tr fr) : EN K (tLst tr) (fun ρ => (fr ρ).bind lstD) := fun A ρ σ H d rs e H1 e1 Q q => by
  obtain ⟨x, ex, eg⟩ := bind_some' e
  unfold lstD at eg
  split at eg
  · rename_i hl
    cases eg
    refine ha A ρ σ H x rs ex H1 e1 _ fun vs H2 e2 r2 => ⟨by rw [r2.length]; exact of_decide_eq_true hl, fun p hp => ?_⟩
    have av2 := (rs.av.mono e1).mono e2
    exact q p _ (fresh_back e2 hp) (e2.trans (Ex.new hp)) ⟨vs, upd_same, RepL.keep2 av2 (Kp.ofEx (Ex.new hp)) (fun x hx => hx.elim .inl fun z => .inr (z ▸ hp)) _ _ r2⟩
  · cases eg
theorem own_setO {ρ : Rho} {i j : Nat} {d e : PyData} (h : (ρ.set i (.own d))[j]? = some (.own e)) : (j = i ∧ e = d) ∨ (j ≠ i ∧ ρ[j]? = some (.own e)) := by
  by_cases hj : i = j
  · subst hj
    by_cases hi : i < ρ.length
    · rw [List.getElem?_set_self hi] at h; cases h; exact .inl ⟨rfl, rfl⟩
    · rw [List.getElem?_eq_none (by simpa using hi)] at h; cases h
  · rw [List.getElem?_set_ne hj] at h
    exact .inr ⟨fun z => hj z.symm, h⟩
theorem Top.avoid {H : Hp} {A : Av} {a D : Addr} (hD : H D = none) : ∀ {d : PyData}, Top K H A a d → Top K H (fun x => A x ∨ x = D) a d
  | .list ds, h => by
    obtain ⟨xs, h1, h2⟩ := h
    exact ⟨xs, h1, RepL.avoid hD _ _ h2⟩
  | .dict kvs, h => by
    obtain ⟨ps, h1, h2⟩ := h
    exact ⟨ps, h1, RepP.avoid hD _ _ h2⟩
  | .none, h => h.elim
  | .bool _, h => h.elim
  | .int _, h => h.elim
  | .str _, h => h.elim
  | .tuple _, h => h.elim
theorem Top.mut {H : Hp} {A : Av} {a : Addr} : ∀ {d : PyData}, Top K H A a d → Mut (H a)
  | .list ds, h => by
    obtain ⟨xs, h1, h2⟩ := h
    rw [h1]; trivial
  | .dict kvs, h => by
    obtain ⟨ps, h1, h2⟩ := h
    rw [h1]; trivial
  | .none, h => h.elim
  | .bool _, h => h.elim
  | .int _, h => h.elim
  | .str _, h => h.elim
  | .tuple _, h => h.elim
theorem es_asgO {i : Nat} (h : EN K te fe) :
    ES K (tAsg te (gName i)) (fun ρ => asgO i ρ (fe ρ)) := fun Hb O ow ρ σ H r D sr e fin => by
  unfold asgO at e
  cases he : fe ρ with
  | none => simp only [he] at e; cases e
  | some d =>
    simp only [he] at e
    cases e
    refine h _ ρ σ H d sr.rs he H (Ex.refl _) _ fun a H2 ha e2 tp => ?_
    have av : ∀ x, Avd O (ρ.set i (.own d)) (fun j => if j = i then a else ow j) x → Avd O ρ ow x ∨ x = a := fun x hx => by
      rcases hx with hx | ⟨j, e', q, z⟩
      · exact .inl (.inl hx)
      · rcases own_setO q with ⟨rfl, _⟩ | ⟨hj, q⟩
        · exact .inr (z.trans (if_pos rfl))
        · exact .inl (.inr ⟨j, e', q, z.trans (if_neg hj)⟩)
    have rs1 : RS K (fun x => Avd O ρ ow x ∨ x = a) ρ σ H2 := by
      refine ⟨sr.rs.len, fun x hx => ?_, fun j s q => ?_⟩
      · rcases hx with hx | rfl
        · exact sr.rs.av.mono e2 x hx
        · exact tp.mut
      · cases s with
        | no => trivial
        | scr ns => obtain ⟨b, h1, h2⟩ := sr.rs.at' j _ q; exact ⟨b, h1, h2.keep sr.rs.av (Kp.ofEx e2)⟩
        | val d' =>
          obtain ⟨v, h1, h2⟩ := sr.rs.at' j _ q
          exact ⟨v, h1, Rep.keep2 sr.rs.av (Kp.ofEx e2) (fun x hx => hx.elim .inl fun z => .inr (z ▸ ha)) _ _ h2⟩
        | own d' =>
          obtain ⟨b, h1, h2⟩ := sr.rs.at' j _ q
          refine ⟨b, h1, ?_⟩
          cases d' with
          | list ds => obtain ⟨xs, k1, k2⟩ := h2; exact ⟨xs, e2 _ _ k1, RepL.keep2 sr.rs.av (Kp.ofEx e2) (fun x hx => hx.elim .inl fun z => .inr (z ▸ ha)) _ _ k2⟩
          | dict ds => obtain ⟨xs, k1, k2⟩ := h2; exact ⟨xs, e2 _ _ k1, RepP.keep2 sr.rs.av (Kp.ofEx e2) (fun x hx => hx.elim .inl fun z => .inr (z ▸ ha)) _ _ k2⟩
          | none => exact h2.elim
          | bool _ => exact h2.elim
          | int _ => exact h2.elim
          | str _ => exact h2.elim
          | tuple _ => exact h2.elim
    refine fin (fun j => if j = i then a else ow j) _ H2 ⟨?_, sr.ex.trans e2, sr.ob, fun j e' q => ?_, fun j k e' e'' q q' z => ?_⟩
    · refine RS.anti av ⟨by simp [rs1.len], rs1.av, fun j s q => ?_⟩
      by_cases hj : i = j
      · subst hj
        by_cases hi : i < ρ.length
        · rw [List.getElem?_set_self hi] at q
          cases q
          exact ⟨a, by rw [List.getElem?_set_self (by rw [← rs1.len]; exact hi)], tp⟩
        · rw [List.getElem?_eq_none (by simpa using hi)] at q
          cases q
      · rw [List.getElem?_set_ne hj] at q ⊢
        exact rs1.at' j s q
    · rcases own_setO q with ⟨rfl, _⟩ | ⟨hj, q⟩
      · have hi : j < ρ.length := by
          by_cases hi : j < ρ.length
          · exact hi
          · rw [List.getElem?_eq_none (by simpa using hi)] at q; cases q
        have e0 : (if j = j then a else ow j) = a := if_pos rfl
        rw [List.getElem?_set_self (by rw [← rs1.len]; exact hi)]
        rw [e0]
        exact ⟨rfl, fresh_back sr.ex ha⟩
      · rw [List.getElem?_set_ne (Ne.symm hj)]
        rw [if_neg hj]
        exact sr.own j e' q
    · rcases own_setO q with ⟨rfl, _⟩ | ⟨hj, q⟩
      · rcases own_setO q' with ⟨rfl, _⟩ | ⟨hk, q'⟩
        · rfl
        · have z : a = ow k := (if_pos rfl).symm.trans (z.trans (if_neg hk))
          have m := (sr.rs.av (ow k) (.inr ⟨k, e'', q', rfl⟩))
          rw [← z, ha] at m
          exact m.elim
      · rcases own_setO q' with ⟨rfl, _⟩ | ⟨hk, q'⟩
        · have z : ow j = a := (if_neg hj).symm.trans (z.trans (if_pos rfl))
          have m := (sr.rs.av (ow j) (.inr ⟨j, e', by assumption, rfl⟩))
          rw [z, ha] at m
          exact m.elim
        · have z : ow j = ow k := (if_neg hj).symm.trans (z.trans (if_neg hk))
          exact sr.inj j k e' e'' q q' z
end

/-! ### a name's own list grows; it becomes a datum -/
section
variable {K : Fg} {Hb H H' : Hp} {O A : Av} {ow : Nat → Addr} {ρ : Rho} {σ : St} {t : TS} {f : Rho → Option Res} {te : TE} {fe : Rho → Option PyData}
/-- one of the names' own is written -/
theorem SR.write {i : Nat} {d d' : PyData} {o : HO} (sr : SR K Hb O ow ρ σ H) (hi : ρ[i]? = some (.own d)) (tp : Top K (upd H (ow i) o) (Avd O ρ ow) (ow i) d') : SR K Hb O ow (ρ.set i (.own d')) σ (upd H (ow i) o) := by
  have hil : i < ρ.length := (List.getElem?_eq_some_iff.mp hi).1
  have own' : ∀ (j : Nat) (e : PyData), (ρ.set i (Sl.own d'))[j]? = some (Sl.own e) → ∃ e', ρ[j]? = some (Sl.own e') := fun j e q => by
    rcases own_setO q with ⟨rfl, _⟩ | ⟨_, q⟩
    · exact ⟨d, hi⟩
    · exact ⟨e, q⟩
  have av : ∀ x, Avd O (ρ.set i (.own d')) ow x → Avd O ρ ow x := fun x hx => by
    rcases hx with hx | ⟨j, e, q, z⟩
    · exact .inl hx
    · obtain ⟨e', q'⟩ := own' j e q
      exact .inr ⟨j, e', q', z⟩
  have ai : Avd O ρ ow (ow i) := .inr ⟨i, d, hi, rfl⟩
  have kp : Kp (Avd O ρ ow) H (upd H (ow i) o) := fun b u e n => by
    have hne : b ≠ ow i := fun z => by rw [z] at n; exact n ai
    rw [upd_ne hne]; exact e
  have mu : Mut (upd H (ow i) o (ow i)) := tp.mut
  have av' : AvOk (Avd O ρ ow) (upd H (ow i) o) := fun a ha => by
    by_cases hz : a = ow i
    · rw [hz]; exact mu
    · rw [upd_ne hz]; exact sr.rs.av a ha
  refine ⟨RS.anti av ⟨by simpa using sr.rs.len, av', fun j s q => ?_⟩, fun b u e => ?_, sr.ob, fun j e q => ?_, fun j k e e' q q' z => ?_⟩
  · by_cases hj : i = j
    · subst hj
      rw [List.getElem?_set_self hil] at q
      cases q
      exact ⟨ow i, (sr.own i d hi).1, tp⟩
    · rw [List.getElem?_set_ne hj] at q
      have s0 := sr.rs.at' j s q
      cases s with
      | no => trivial
      | scr ns => obtain ⟨b, h1, h2⟩ := s0; exact ⟨b, h1, h2.keep sr.rs.av kp⟩
      | val d2 => obtain ⟨v, h1, h2⟩ := s0; exact ⟨v, h1, Rep.keep sr.rs.av kp _ _ h2⟩
      | own d2 =>
        obtain ⟨b, h1, h2⟩ := s0
        have hb : b = ow j := by
          have := (sr.own j d2 q).1
          rw [h1] at this
          cases this; rfl
        have hne : b ≠ ow i := fun z => hj (sr.inj i j d d2 hi q (z.symm.trans hb))
        refine ⟨b, h1, ?_⟩
        cases d2 with
        | list ds => obtain ⟨xs, k1, k2⟩ := h2; exact ⟨xs, by rw [upd_ne hne]; exact k1, RepL.keep sr.rs.av kp _ _ k2⟩
        | dict ds => obtain ⟨xs, k1, k2⟩ := h2; exact ⟨xs, by rw [upd_ne hne]; exact k1, RepP.keep sr.rs.av kp _ _ k2⟩
        | none => exact h2.elim
        | bool _ => exact h2.elim
        | int _ => exact h2.elim
        | str _ => exact h2.elim
        | tuple _ => exact h2.elim
  · rw [upd_ne fun z => by rw [z, (sr.own i d hi).2] at e; cases e]
    exact sr.ex b u e
  · obtain ⟨e', q'⟩ := own' j e q
    exact sr.own j e' q'
  · obtain ⟨e1, q1⟩ := own' j e q
    obtain ⟨e2, q2⟩ := own' k e' q'
    exact sr.inj j k e1 e2 q1 q2 z
theorem SR.top {i : Nat} {d : PyData} (sr : SR K Hb O ow ρ σ H) (hi : ρ[i]? = some (.own d)) : Top K H (Avd O ρ ow) (ow i) d := by
  obtain ⟨a, h1, h2⟩ := sr.rs.at' i _ hi
  have := (sr.own i d hi).1
  rw [h1] at this
  cases this
  exact h2
def ownL (i : Nat) (ρ : Rho) : Option (List PyData) := match ρ[i]? with
  | some (.own (.list ds)) => some ds
  | _ => none
theorem ownL_some {i : Nat} {ds : List PyData} (h : ownL i ρ = some ds) : ρ[i]? = some (.own (.list ds)) := by
  unfold ownL at h
  split at h
  · cases h; assumption
  · cases h
def lenLt (n : Nat) : Bool := decide (n < sizeLine)
def appR (i : Nat) (ρ : Rho) (o : Option PyData) : Option Res := bnd2 (ownL i ρ) o fun ds d => if lenLt ds.length then some (.nx (ρ.set i (.own (.list (ds ++ [d]))))) else none
/-- x.append(e) -/
theorem es_append {i : Nat} (h : EF K te fe) : ES K (tDrop (tBM K "list" rAppend (tVar i) (tCons te tNil))) (fun ρ => appR i ρ (fe ρ)) := fun Hb O ow ρ σ H r D sr e fin => by
  unfold appR at e
  obtain ⟨ds, d, e1, e2, e3⟩ := bnd2_some e
  split at e3
  · rename_i hl
    cases e3
    have hi := ownL_some e1
    obtain ⟨xs, h1, h2⟩ := sr.top hi
    refine ⟨.ref (ow i), (sr.own i _ hi).1, .inl ⟨rfl, xs, SqL.of h1⟩, ?_⟩
    refine h _ ρ σ H d sr.rs e2 H (Ex.refl _) _ fun v H2 ex2 rv => ?_
    have sr2 := sr.mono ex2
    have h1' := ex2 _ _ h1
    refine ⟨ow i, xs, v, rfl, rfl, h1', by rw [h2.length]; exact of_decide_eq_true hl, ?_⟩
    refine fin ow σ _ (sr2.write hi ⟨xs ++ [v], upd_same, ?_⟩)
    have kp : Kp (Avd O ρ ow) H2 (upd H2 (ow i) (.lst (xs ++ [v]))) := fun b u e n => by
      rw [upd_ne fun z => n (.inr ⟨i, _, hi, z⟩)]; exact e
    exact RepL.keep sr2.rs.av kp _ _ ((h2.mono sr.rs.av ex2).append (RepL.one rv))
  · cases e3
def isL : PyData → Option (List PyData)
  | .list ds => some ds
  | _ => none
theorem isL_some {d : PyData} {ds : List PyData} (h : isL d = some ds) : d = .list ds := by
  cases d <;> simp [isL] at h
  subst h; rfl
def extR (i : Nat) (ρ : Rho) (o : Option PyData) : Option Res := bnd2 (ownL i ρ) (o.bind isL) fun ds es => if lenOk (ds.length + es.length) then some (.nx (ρ.set i (.own (.list (ds ++ es))))) else none
/-- x.extend(e), e a new list -/
theorem es_extend {i : Nat} (h : EN K te fe) : ES K (tDrop (tBM K "list" rExtend (tVar i) (tCons te tNil))) (fun ρ => extR i ρ (fe ρ)) := fun Hb O ow ρ σ H r D sr e fin => by
  unfold extR at e
  obtain ⟨ds, es, e1, e2, e3⟩ := bnd2_some e
  split at e3
  · rename_i hl
    cases e3
    have hi := ownL_some e1
    obtain ⟨d, e2, e2'⟩ := bind_some' e2
    cases isL_some e2'
    obtain ⟨xs, h1, h2⟩ := sr.top hi
    refine ⟨.ref (ow i), (sr.own i _ hi).1, .inl ⟨rfl, xs, SqL.of h1⟩, ?_⟩
    refine h _ ρ σ H _ sr.rs e2 H (Ex.refl _) _ fun a H2 ha ex2 tp => ?_
    obtain ⟨ys, k1, k2⟩ := tp.anti (B := Avd O ρ ow) fun _ z => .inl z
    have sr2 := sr.mono ex2
    have h1' := ex2 _ _ h1
    refine ⟨ow i, a, xs, ys, rfl, rfl, h1', k1, by rw [h2.length, k2.length]; exact of_decide_eq_true hl, ?_⟩
    refine fin ow σ _ (sr2.write hi ⟨xs ++ ys, upd_same, ?_⟩)
    have kp : Kp (Avd O ρ ow) H2 (upd H2 (ow i) (.lst (xs ++ ys))) := fun b u e n => by
      rw [upd_ne fun z => n (.inr ⟨i, _, hi, z⟩)]; exact e
    exact RepL.keep sr2.rs.av kp _ _ ((h2.mono sr.rs.av ex2).append k2)
  · cases e3
/-- .. e a datum, a tracked list -/
def sealR (i : Nat) (ρ : Rho) : Rho := match ρ[i]? with
  | some (.own d) => ρ.set i (.val d)
  | _ => ρ
theorem SR.seal (i : Nat) (sr : SR K Hb O ow ρ σ H) : SR K Hb O ow (sealR i ρ) σ H := by
  unfold sealR
  split
  · rename_i d hi
    have hil : i < ρ.length := (List.getElem?_eq_some_iff.mp hi).1
    have na : ¬ Avd O (ρ.set i (.val d)) ow (ow i) := fun z => by
      rcases z with z | ⟨j, e, q, z⟩
      · have := sr.ob _ z
        rw [(sr.own i d hi).2] at this
        exact this
      · obtain ⟨hj, q⟩ := own_set q
        exact hj (sr.inj j i e d q hi z.symm)
    have tp := (sr.top hi).anti (B := Avd O (ρ.set i (.val d)) ow) Avd.set
    have rs0 : RS K (Avd O (ρ.set i (.val d)) ow) ρ σ H := sr.rs.anti Avd.set
    refine ⟨⟨by simpa using sr.rs.len, rs0.av, fun j s q => ?_⟩, sr.ex, sr.ob, fun j e q => ?_, fun j k e e' q q' z => ?_⟩
    · by_cases hj : i = j
      · subst hj
        rw [List.getElem?_set_self hil] at q
        cases q
        exact ⟨_, (sr.own i d hi).1, tp.rep na⟩
      · rw [List.getElem?_set_ne hj] at q
        exact rs0.at' j s q
    · exact sr.own j e (own_set q).2
    · exact sr.inj j k e e' (own_set q).2 (own_set q').2 z
  · exact sr
theorem es_seal (i : Nat) (h : ES K t f) : ES K t (fun ρ => f (sealR i ρ)) := fun Hb O ow ρ σ H r D sr e fin => h Hb O ow (sealR i ρ) σ H r D (sr.seal i) e fin
end

/-! ### what is walked -/
structure Iter (K : Fg) (A : Av) (J : It) (H : Hp) (ds : List PyData) (P : Hp → Prop) : Prop where
  goes : ∀ i Ha, i < ds.length → P Ha → J.go i Ha
  stops : ∀ Ha, P Ha → J.stop ds.length Ha
  yields : ∀ B i x Ha Hc d, (∀ a, B a → A a ∨ H a = none) → ds[i]? = some d → P Ha → J.yld i Ha x Hc → Ex Ha Hc ∧ Rep K Hc B d x
def EI (K : Fg) (wi : TI) (f : Rho → Option (List PyData)) : Prop := ∀ A ρ σ H ds, RS K A ρ σ H → f ρ = some ds → ∀ H1, Ex H H1 → ∀ R : It → Hp → Prop, (∀ J H2, Ex H1 H2 → Iter K A J H2 ds (Kp A H2) → R J H2) → wi σ H1 R
def EIb (K : Fg) (wi : TI) (f : Rho → Option (List PyData)) : Prop := ∀ A ρ σ H ds, RS K A ρ σ H → f ρ = some ds → ∀ H1, Ex H H1 → ∀ R : It → Hp → Prop, (∀ J H2, Ex H1 H2 → Iter K A J H2 ds (Ex H2) → R J H2) → wi σ H1 R
theorem Iter.imp {K : Fg} {A : Av} {J : It} {H : Hp} {ds : List PyData} {P P' : Hp → Prop} (h : Iter K A J H ds P) (i : ∀ H, P' H → P H) : Iter K A J H ds P' :=
  ⟨fun k Ha hk p => h.goes k Ha hk (i _ p), fun Ha p => h.stops Ha (i _ p), fun B k x Ha Hc d hb hd p y => h.yields B k x Ha Hc d hb hd (i _ p) y⟩
theorem EI.b {K : Fg} {wi : TI} {f : Rho → Option (List PyData)} (h : EI K wi f) : EIb K wi f := fun A ρ σ H ds rs e H1 e1 R k => h A ρ σ H ds rs e H1 e1 R fun J H2 e2 it => k J H2 e2 (it.imp fun _ x => Kp.ofEx x)
def forD (h : PyData → Option (List PyData)) (is : List Nat) (body : Rho → Option Res) : List PyData → Rho → Option Res
  | [], ρ => some (.nx ρ)
  | d :: ds, ρ => match h d with
    | none => none
    | some es => match body (setsR ρ is es) with
      | some (.nx ρ') => forD h is body ds ρ'
      | some (.ct ρ') => forD h is body ds ρ'
      | some (.brk ρ') => some (.nx ρ')
      | some (.ret d) => some (.ret d)
      | none => none
def forR (o : Option (List PyData)) (h : PyData → Option (List PyData)) (is : List Nat) (body : Rho → Option Res) (ρ : Rho) : Option Res := o.bind fun ds => forD h is body ds ρ
section
variable {K : Fg}
theorem es_for {wi : TI} {fi : Rho → Option (List PyData)} {g : TG} {is : List Nat} {h : PyData → Option (List PyData)} {tb : TS} {fb : Rho → Option Res} (hi : EI K wi fi) (hg : EG K g is h) (hb : ES K tb fb) :
    ES K (tFor wi g tb) (fun ρ => forR (fi ρ) h is fb ρ) := fun Hb O ow ρ σ H r D sr e fin => by
  unfold forR at e
  obtain ⟨ds, e1, e2⟩ := bind_some' e
  refine hi _ ρ σ H ds sr.rs e1 H (Ex.refl _) _ fun J H2 ex2 it => ?_
  have sr2 := sr.mono ex2
  obtain ⟨sr3, exb⟩ := sr2.rebase
  have fin3 : Fin K (less ρ ow H2) O D r := fin.base exb sr.ob
  have kp : ∀ H', Ex (less ρ ow H2) H' → Kp (Avd O ρ ow) H2 H' := fun H' x b o q n => x b o (by rw [less_not fun z => n (.inr z)]; exact q)
  refine ⟨fun i m σ H => m = ds.length - i ∧ i ≤ ds.length ∧ ∃ ow' ρ', SR K (less ρ ow H2) O ow' ρ' σ H ∧ forD h is fb (ds.drop i) ρ' = some r, ⟨_, rfl, Nat.zero_le _, ow, ρ, sr3, e2⟩, ?_⟩
  rintro i m σ' H' ⟨rfl, hil, ow', ρ', sr', ef⟩
  by_cases hlt : i < ds.length
  · right
    have hd : ds.drop i = ds[i] :: ds.drop (i + 1) := List.drop_eq_getElem_cons hlt
    rw [hd] at ef
    unfold forD at ef
    cases hh : h ds[i] with
    | none => rw [hh] at ef; cases ef
    | some es =>
      rw [hh] at ef
      dsimp only at ef
      refine ⟨it.goes i H' hlt (kp H' sr'.ex), fun σ'' H'' => ∃ ow'' ρ'', SR K (less ρ ow H2) O ow'' ρ'' σ'' H'' ∧ forD h is fb (ds.drop (i + 1)) ρ'' = some r, fun σ'' H'' ⟨ow'', ρ'', s, q⟩ => ⟨_, by omega, rfl, by omega, ow'', ρ'', s, q⟩, fun x H'' y => ?_⟩
      have hB : ∀ a, Avd O ρ' ow' a → Avd O ρ ow a ∨ H2 a = none := fun a ha => by
        rcases ha with ha | ⟨j, e, q, z⟩
        · exact .inl (.inl ha)
        · have n := (sr'.own j e q).2
          rw [← z] at n
          by_cases ho : ∃ i d, ρ[i]? = some (.own d) ∧ a = ow i
          · exact .inl (.inr ho)
          · rw [less_not ho] at n; exact .inr n
      obtain ⟨exy, ry⟩ := it.yields _ i x H' H'' ds[i] hB (List.getElem?_eq_getElem hlt) (kp H' sr'.ex) y
      have sr4 := sr'.mono exy
      refine hg.run _ σ' H'' _ x es sr4.rs.av ry hh _ fun vs rl => ?_
      have sr5 := sr4.sets (is := is) rl
      cases hbd : fb (setsR ρ' is es) with
      | none => rw [hbd] at ef; cases ef
      | some r1 =>
        rw [hbd] at ef
        refine hb _ O ow' _ _ H'' r1 _ sr5 hbd ?_
        cases r1 with
        | nx ρ2 => exact fun ow2 σ2 H2' s2 => ⟨ow2, ρ2, s2, ef⟩
        | ct ρ2 => exact fun ow2 σ2 H2' s2 => ⟨ow2, ρ2, s2, ef⟩
        | brk ρ2 => cases ef; exact fun ow2 σ2 H2' s2 => fin3 ow2 σ2 H2' s2
        | ret d => cases ef; exact fin3
  · left
    have hi0 : i = ds.length := by omega
    subst hi0
    rw [List.drop_length] at ef
    cases ef
    exact ⟨it.stops H' (kp H' sr'.ex), fin3 ow' σ' H' sr'⟩

/-! ### comprehensions -/
def wipeR (ρ : Rho) : List Nat → Rho
  | [] => ρ
  | v :: vs => (wipeR ρ vs).set v .no
theorem RS.setNo {A : Av} {ρ : Rho} {σ : St} {H : Hp} {i : Nat} {x : Option V} (h : RS K A ρ σ H) : RS K A (ρ.set i .no) (σ.set i x) H := by
  refine ⟨by simp [h.len], h.av, fun j s q => ?_⟩
  by_cases hj : i = j
  · subst hj
    by_cases hi : i < ρ.length
    · rw [List.getElem?_set_self hi] at q; cases q; trivial
    · rw [List.getElem?_eq_none (by simpa using hi)] at q; cases q
  · rw [List.getElem?_set_ne hj] at q ⊢
    exact h.at' j s q
theorem RS.wipe {A : Av} {ρ : Rho} {σ : St} {H : Hp} (h : RS K A ρ σ H) : ∀ vs : List Nat, RS K A (wipeR ρ vs) (L2.wipe σ vs) H
  | [] => h
  | v :: vs => (RS.wipe h vs).setNo
theorem wipe_in {σ : St} {i : Nat} : ∀ {vs : List Nat}, i ∈ vs → i < σ.length → (L2.wipe σ vs)[i]? = some none
  | [], h, _ => by simp at h
  | v :: vs, h, hl => by
    unfold L2.wipe
    by_cases hv : v = i
    · subst hv
      rw [List.getElem?_set_self (by rw [wipe_length]; exact hl)]
    · rw [List.getElem?_set_ne hv]
      exact wipe_in (by rcases List.mem_cons.mp h with h | h; exact absurd h.symm hv; exact h) hl
theorem setsS_length : ∀ (is : List Nat) (xs : List V) (σ : St), (setsS σ is xs).length = σ.length
  | [], _, _ => rfl
  | _ :: _, [], _ => rfl
  | i :: is, x :: xs, σ => by
    show (setsS (σ.set i (some x)) is xs).length = _
    rw [setsS_length is xs, List.length_set]
theorem setsS_out : ∀ (is : List Nat) (xs : List V) (σ : St) (i : Nat), i ∉ is → (setsS σ is xs)[i]? = σ[i]?
  | [], _, _, _, _ => rfl
  | _ :: _, [], _, _, _ => rfl
  | j :: is, x :: xs, σ, i, h => by
    show (setsS (σ.set j (some x)) is xs)[i]? = _
    rw [setsS_out is xs _ i fun z => h (List.mem_cons_of_mem _ z), List.getElem?_set_ne fun z => h (by rw [z]; exact List.mem_cons_self)]
theorem wipe_sets {σ : St} {vs is : List Nat} {xs : List V} (hs : ∀ i ∈ is, i ∈ vs) : L2.wipe (setsS (L2.wipe σ vs) is xs) vs = L2.wipe σ vs := by
  apply List.ext_getElem?
  intro i
  by_cases hv : i ∈ vs
  · by_cases hl : i < σ.length
    · rw [wipe_in hv (by rw [setsS_length, wipe_length]; exact hl), wipe_in hv hl]
    · rw [List.getElem?_eq_none (by rw [wipe_length, setsS_length, wipe_length]; omega), List.getElem?_eq_none (by rw [wipe_length]; omega)]
  · rw [wipe_out hv, setsS_out _ _ _ _ fun z => hv (hs i z)]
def compD (h : PyData → Option (List PyData)) (is : List Nat) (ft : Rho → Option Bool) (fe : Rho → Option PyData) (ρ : Rho) : List PyData → Option (List PyData)
  | [] => some []
  | d :: ds => match h d with
    | none => none
    | some es => match ft (setsR ρ is es) with
      | none => none
      | some false => compD h is ft fe ρ ds
      | some true => match fe (setsR ρ is es) with
        | none => none
        | some y => match compD h is ft fe ρ ds with
          | none => none
          | some ys => some (y :: ys)
def compR (o : Option (List PyData)) (h : PyData → Option (List PyData)) (is : List Nat) (ft : Rho → Option Bool) (fe : Rho → Option PyData) (vs : List Nat) (ρ : Rho) : Option PyData := o.bind fun ds => if lenOk ds.length then (compD h is ft fe (wipeR ρ vs) ds).map .list else none
theorem ef_lc {wi : TI} {fi : Rho → Option (List PyData)} {g : TG} {is vs : List Nat} {h : PyData → Option (List PyData)} {tt : TT} {ft : Rho → Option Bool} {te : TE} {fe : Rho → Option PyData} (hi : EIb K wi fi) (hg : EG K g is h) (ht : ET K tt ft) (he : EF K te fe)
    (hv : ∀ i ∈ is, i ∈ vs := by decide) :
    EN K (tLc wi g tt te vs) (fun ρ => compR (fi ρ) h is ft fe vs ρ) := fun A ρ σ H d rs e H1 e1 Q q => by
  unfold compR at e
  obtain ⟨ds, ei, e2⟩ := bind_some' e
  split at e2
  · rename_i hl
    have hl := of_decide_eq_true hl
    cases hcd : compD h is ft fe (wipeR ρ vs) ds with
    | none => rw [hcd] at e2; cases e2
    | some out =>
      rw [hcd] at e2
      cases e2
      refine hi A ρ σ H ds rs ei H1 e1 _ fun J H2 ex2 it Dl hD => ?_
      have rs2 := (rs.mono e1).mono ex2
      have rsw : RS K A (wipeR ρ vs) (L2.wipe σ vs) H2 := rs2.wipe vs
      have hA' : ∀ a, (A a ∨ a = Dl) → A a ∨ H2 a = none := fun a ha => ha.elim .inl fun z => .inr (z ▸ hD)
      refine ⟨fun i m H' => m = ds.length - i ∧ i ≤ ds.length ∧ Ex H2 H' ∧ ∃ acc xs rest, H' Dl = some (.lst xs) ∧ RepL K H' (fun a => A a ∨ a = Dl) acc xs ∧ acc.length ≤ i ∧ compD h is ft fe (wipeR ρ vs) (ds.drop i) = some rest ∧ acc ++ rest = out,
        ⟨_, rfl, Nat.zero_le _, Ex.new hD, [], [], out, upd_same, RepL.nil, Nat.le_refl _, hcd, rfl⟩, ?_⟩
      rintro i m H' ⟨rfl, hil, ex', acc, xs, rest, hDl, racc, hacc, ec, eo⟩
      have av' : AvOk (fun a => A a ∨ a = Dl) H' := fun a ha => by
        rcases ha with ha | ha
        · exact rs2.av.mono ex' a ha
        · subst ha; rw [hDl]; trivial
      have rs' : RS K (fun a => A a ∨ a = Dl) (wipeR ρ vs) (L2.wipe σ vs) H' := by
        refine ⟨rsw.len, av', fun j s qj => ?_⟩
        have s0 := rsw.at' j s qj
        cases s with
        | no => trivial
        | scr ns => obtain ⟨b, h1, h2⟩ := s0; exact ⟨b, h1, h2.keep rs2.av (Kp.ofEx ex')⟩
        | val d2 => obtain ⟨v, h1, h2⟩ := s0; exact ⟨v, h1, Rep.keep2 rs2.av (Kp.ofEx ex') hA' _ _ h2⟩
        | own d2 =>
          obtain ⟨b, h1, h2⟩ := s0
          refine ⟨b, h1, ?_⟩
          cases d2 with
          | list _ => obtain ⟨zs, k1, k2⟩ := h2; exact ⟨zs, ex' _ _ k1, RepL.keep2 rs2.av (Kp.ofEx ex') hA' _ _ k2⟩
          | dict _ => obtain ⟨zs, k1, k2⟩ := h2; exact ⟨zs, ex' _ _ k1, RepP.keep2 rs2.av (Kp.ofEx ex') hA' _ _ k2⟩
          | none => exact h2.elim
          | bool _ => exact h2.elim
          | int _ => exact h2.elim
          | str _ => exact h2.elim
          | tuple _ => exact h2.elim
      by_cases hlt : i < ds.length
      · right
        have hd : ds.drop i = ds[i] :: ds.drop (i + 1) := List.drop_eq_getElem_cons hlt
        rw [hd] at ec
        unfold compD at ec
        cases hh : h ds[i] with
        | none => rw [hh] at ec; cases ec
        | some es =>
          rw [hh] at ec
          dsimp only at ec
          refine ⟨it.goes i H' hlt ex', fun H'' => Ex H2 H'' ∧ ∃ acc xs rest, H'' Dl = some (.lst xs) ∧ RepL K H'' (fun a => A a ∨ a = Dl) acc xs ∧ acc.length ≤ i + 1 ∧ compD h is ft fe (wipeR ρ vs) (ds.drop (i + 1)) = some rest ∧ acc ++ rest = out,
            fun H'' ⟨x1, x2⟩ => ⟨_, by omega, rfl, by omega, x1, x2⟩, fun x H'' y => ?_⟩
          obtain ⟨exy, ry⟩ := it.yields _ i x H' H'' ds[i] hA' (List.getElem?_eq_getElem hlt) ex' y
          have rs'' := rs'.mono exy
          refine hg.run _ _ H'' _ x es rs''.av ry hh _ fun us rl => ⟨wipe_sets hv, ?_⟩
          have rs3 := rs''.sets (is := is) rl
          cases hb : ft (setsR (wipeR ρ vs) is es) with
          | none => rw [hb] at ec; cases ec
          | some b =>
            rw [hb] at ec
            refine ht _ _ _ H'' b rs3 hb H'' (Ex.refl _) _ fun H3 ex3 => ?_
            cases b with
            | false =>
              show Ex H2 H3 ∧ _
              refine ⟨(ex'.trans exy).trans ex3, acc, xs, rest, ex3 _ _ (exy _ _ hDl), (racc.mono av' exy).mono rs''.av ex3, by omega, ec, eo⟩
            | true =>
              show te _ H3 _
              dsimp only at ec
              cases hf : fe (setsR (wipeR ρ vs) is es) with
              | none => rw [hf] at ec; cases ec
              | some z =>
                rw [hf] at ec
                dsimp only at ec
                cases hr : compD h is ft fe (wipeR ρ vs) (ds.drop (i + 1)) with
                | none => rw [hr] at ec; cases ec
                | some rest' =>
                  rw [hr] at ec
                  cases ec
                  refine he _ _ _ H'' z rs3 hf H3 ex3 _ fun w H4 ex4 rw4 => ?_
                  have hD4 := ex4 _ _ (ex3 _ _ (exy _ _ hDl))
                  have racc4 : RepL K H4 (fun a => A a ∨ a = Dl) acc xs := ((racc.mono av' exy).mono rs''.av ex3).mono (rs''.av.mono ex3) ex4
                  have av4 := (rs''.av.mono ex3).mono ex4
                  have kp : Kp (fun a => A a ∨ a = Dl) H4 (upd H4 Dl (.lst (xs ++ [w]))) := fun b u e n => by
                    rw [upd_ne fun z => n (.inr z)]; exact e
                  refine ⟨xs, hD4, by rw [racc4.length]; omega, fun b u e => ?_, acc ++ [z], xs ++ [w], rest', upd_same, RepL.keep av4 kp _ _ (racc4.append (RepL.one rw4)), by simp; omega, rfl, by simpa using eo⟩
                  rw [upd_ne (ne_of_none e hD)]
                  exact ex4 _ _ (ex3 _ _ (exy _ _ (ex' _ _ e)))
      · left
        have hi0 : i = ds.length := by omega
        subst hi0
        rw [List.drop_length] at ec
        cases ec
        refine ⟨it.stops H' ex', q Dl H' (fresh_back ex2 hD) (ex2.trans ex') ⟨xs, hDl, ?_⟩⟩
        rw [← eo]
        simpa using racc
  · cases e2
end

/-! ### calls of defs -/
def spD (K : Fg) (f : List PyData → Option PyData) : Sp := fun vs H Q _ => ∃ O ds d, AvOk O H ∧ RepL K H O ds vs ∧ f ds = some d ∧ ∀ v H', Ex H H' → Rep K H' O d v → Q v H'
section
variable {K : Fg}
theorem ef_call {f : List PyData → Option PyData} {E : XK} {tr : TA} {fr : Rho → Option (List PyData)} (ha : EA K tr fr) : EF K (tCall (spD K f) [] E tr) (fun ρ => (fr ρ).bind f) := fun A ρ σ H d rs e H1 e1 Q q => by
  obtain ⟨x, ex, eg⟩ := bind_some' e
  refine ha A ρ σ H x rs ex H1 e1 _ fun vs H2 e2 r2 => ?_
  exact ⟨A, x, d, (rs.av.mono e1).mono e2, by simpa using r2, eg, fun v H' e' r' => q v H' (e2.trans e') r'⟩
def startR (n : Nat) (ds : List PyData) : Rho := ds.map .val ++ List.replicate (n - ds.length) .no
theorem start_ok {N : List Str} {O : Av} {H : Hp} {ss : List Sl} {vs : List V} (ob : AvOk O H) (hl : ss.length = vs.length) (hn : ∀ s ∈ ss, ∀ d, s ≠ .own d) (r : ∀ (i : Nat) (s : Sl) (v : V), ss[i]? = some s → vs[i]? = some v → SlOk K H O s (some (some v))) :
    SR K H O (fun _ => 0) (ss ++ List.replicate (N.length - ss.length) .no) (start N vs) H := by
  have noown : ∀ (i : Nat) (d : PyData), (ss ++ List.replicate (N.length - ss.length) Sl.no)[i]? ≠ some (Sl.own d) := fun i d q => by
    rw [List.getElem?_append] at q
    split at q
    · exact hn _ (List.mem_of_getElem? q) d rfl
    · rw [List.getElem?_replicate] at q
      split at q <;> cases q
  have av : ∀ a, Avd O (ss ++ List.replicate (N.length - ss.length) Sl.no) (fun _ => 0) a → O a := fun a h => by
    rcases h with h | ⟨i, d, q, _⟩
    · exact h
    · exact (noown i d q).elim
  refine ⟨RS.anti av ⟨?_, ob, fun i s q => ?_⟩, Ex.refl _, ob, fun i d q => (noown i d q).elim, fun i j d e q => (noown i d q).elim⟩
  · unfold L2.start
    simp [hl]
  · unfold L2.start
    rw [List.getElem?_append] at q
    split at q
    · rename_i hlt
      have hv : vs[i]? = some (vs[i]'(by omega)) := List.getElem?_eq_getElem (by omega)
      rw [List.getElem?_append_left (by rw [List.length_map]; omega), List.getElem?_map, hv]
      exact r i s _ q hv
    · rw [List.getElem?_replicate] at q
      split at q
      · cases q; trivial
      · cases q
theorem start_ds {N : List Str} {O : Av} {H : Hp} {ds : List PyData} {vs : List V} (ob : AvOk O H) (r : RepL K H O ds vs) : SR K H O (fun _ => 0) (startR N.length ds) (start N vs) H := by
  have e : startR N.length ds = ds.map Sl.val ++ List.replicate (N.length - (ds.map Sl.val).length) .no := by unfold startR; simp
  rw [e]
  refine start_ok ob (by simp [r.length]) (fun s hs d e => ?_) fun i s v hs hv => ?_
  · obtain ⟨x, _, rfl⟩ := List.mem_map.mp hs
    cases e
  · rw [List.getElem?_map] at hs
    cases h : ds[i]? with
    | none => rw [h] at hs; cases hs
    | some x =>
      rw [h] at hs
      cases hs
      obtain ⟨v', hv', rv⟩ := r.get h
      rw [hv] at hv'; cases hv'
      exact ⟨v, rfl, rv⟩
/-- what a body's run gives back -/
def retD : Option Res → Option PyData
  | some (.ret d) => some d
  | some (.nx _) => some .none
  | _ => none
theorem body_ok {N : List Str} {t : TS} {fb : Rho → Option Res} {f : List PyData → Option PyData} {vs : List V} {H : Hp} {Q : VK} {E : XK} (h : ES K t fb) (hf : ∀ ds d, f ds = some d → retD (fb (startR N.length ds)) = some d) (sp : spD K f vs H Q E) :
    t { nx := fun _ H' => Q .non H', rt := Q } (start N vs) H := by
  obtain ⟨O, ds, d, ob, r, e, q⟩ := sp
  have e' := hf ds d e
  cases hr : fb (startR N.length ds) with
  | none => rw [hr] at e'; cases e'
  | some r1 =>
    rw [hr] at e'
    refine h H O _ _ _ H r1 _ (start_ds ob r) hr ?_
    cases r1 with
    | ret d' => cases e'; exact fun v H' x rv => q v H' x rv
    | nx ρ => cases e'; exact fun ow σ H' s => q .non H' s.ex (by simp only [Rep])
    | brk ρ => cases e'
    | ct ρ => cases e'
end
end Sv

/-! Operators, subscripts, built-in calls: what each gives on data. -/
namespace Sv
open PySem L2 Evl

section
variable {K : Fg} {H : Hp} {A : Av} {v : V}
theorem RepB.lst {ds : List PyData} (h : RepB K H A (.list ds) v) : ∃ a xs, v = .ref a ∧ Rd H a (.lst xs) ∧ RepL K H A ds xs := by
  rcases h with h | ⟨a, e, xs, h1, h2⟩
  · simp only [Rep] at h
    obtain ⟨a, xs, e, _, h1, h2⟩ := h
    exact ⟨a, xs, e, h1, h2⟩
  · exact ⟨a, xs, e, .inl h1, h2⟩
theorem RepB.tup {ds : List PyData} (h : RepB K H A (.tuple ds) v) : ∃ a xs, v = .ref a ∧ SqT K H a xs ∧ RepL K H A ds xs := by
  rcases h with h | ⟨a, e, h⟩
  · simpa only [Rep] using h
  · exact h.elim
theorem RepB.int {i : Int} (h : RepB K H A (.int i) v) : v = .int i := by
  rcases h with h | ⟨a, e, h⟩
  · simpa only [Rep] using h
  · exact h.elim
theorem RepB.str {i : Str} (h : RepB K H A (.str i) v) : v = .str i := by
  rcases h with h | ⟨a, e, h⟩
  · simpa only [Rep] using h
  · exact h.elim
theorem RepB.bl {i : Bool} (h : RepB K H A (.bool i) v) : v = .bl i := by
  rcases h with h | ⟨a, e, h⟩
  · simpa only [Rep] using h
  · exact h.elim
theorem RepB.non (h : RepB K H A .none v) : v = .non := by
  rcases h with h | ⟨a, e, h⟩
  · simpa only [Rep] using h
  · exact h.elim
theorem rep_int {i : Int} : Rep K H A (.int i) (.int i) := by simp only [Rep]
theorem rep_str {i : Str} : Rep K H A (.str i) (.str i) := by simp only [Rep]
theorem rep_bl {i : Bool} : Rep K H A (.bool i) (.bl i) := by simp only [Rep]
theorem rep_non : Rep K H A .none .non := by simp only [Rep]
theorem rep_newT {p : Addr} {ds : List PyData} {xs : List V} (ok : AvOk A H) (hp : H p = none) (r : RepL K H A ds xs) : Rep K (upd H p (.tup xs)) A (.tuple ds) (.ref p) := by
  simp only [Rep]
  exact ⟨p, xs, rfl, SqT.of upd_same, r.mono ok (Ex.new hp)⟩
theorem rep_newL {p : Addr} {ds : List PyData} {xs : List V} (ok : AvOk A H) (hp : H p = none) (r : RepL K H A ds xs) : Rep K (upd H p (.lst xs)) A (.list ds) (.ref p) := by
  simp only [Rep]
  exact ⟨p, xs, rfl, ok.fresh hp, .inl upd_same, r.mono ok (Ex.new hp)⟩
theorem rep_tup {a : Addr} {ds : List PyData} {xs : List V} (h : SqT K H a xs) (r : RepL K H A ds xs) : Rep K H A (.tuple ds) (.ref a) := by
  simp only [Rep]
  exact ⟨a, xs, rfl, h, r⟩
end

/-! ### + - * // % -/
section
variable {X : Cx}
def rCatR : R2 := fun x y H Q => ∃ l b xs zs, x = .ref l ∧ y = .ref b ∧ Rd H l (.lst xs) ∧ Rd H b (.lst zs) ∧ xs.length + zs.length ≤ sizeLine ∧ ∀ p, H p = none → Q (.ref p) (upd H p (.lst (xs ++ zs)))
theorem op_catR : OpR X (binaryOp .Add) rCatR := by
  intro pins s σ H x y v u Q I rx ry h
  obtain ⟨l, b, xs, zs, rfl, rfl, hH, hB, hz, q⟩ := h
  cases rx
  cases ry
  obtain ⟨z, its, n, r, e⟩ := hH.ok I.hok
  obtain ⟨z2, its2, n2, r2, e2⟩ := hB.ok I.hok
  have hl := r.length
  have hl2 := r2.length
  refine PySem.P.add_list e e2 ?_ (by rw [List.size_toArray, List.size_toArray]; omega)
  have ea : its.toArray ++ its2.toArray = (its ++ its2).toArray := by simp
  rw [ea]
  exact ⟨.ref _, _, I.lnew (t' := s.toks) (r.append r2) (by rw [List.length_append]; omega), rfl, q _ I.fresh⟩
theorem op_addD : OpR X (binaryOp .Add) (fun x y H Q => rI0 (fun i j => .int (i + j)) x y H Q ∨ (∃ i j, x = .str i ∧ y = .str j ∧ i.length + j.length ≤ sizeLine ∧ Q (.str (i ++ j)) H) ∨ rCatA X.K x y H Q ∨ rCatR x y H Q) := op_add.or (op_add_str.or (op_catA.or op_catR))
end
def rAddD (K : Fg) : R2 := fun x y H Q => rI0 (fun i j => .int (i + j)) x y H Q ∨ (∃ i j, x = .str i ∧ y = .str j ∧ i.length + j.length ≤ sizeLine ∧ Q (.str (i ++ j)) H) ∨ rCatA K x y H Q ∨ rCatR x y H Q
theorem op_addd {X : Cx} : OpR X (binaryOp .Add) (rAddD X.K) := op_addD
def addD : PyData → PyData → Option PyData
  | .int a, .int b => some (.int (a + b))
  | .str a, .str b => if lenOk (a.length + b.length) then some (.str (a ++ b)) else none
  | .tuple a, .tuple b => if lenOk (a.length + b.length) then some (.tuple (a ++ b)) else none
  | .list a, .list b => if lenOk (a.length + b.length) then some (.list (a ++ b)) else none
  | _, _ => none
section
variable {K : Fg}
theorem e2_add : E2 K (rAddD K) addD := fun A H d e x y z ok rx ry h Q q => by
  unfold addD at h
  split at h
  · cases h
    cases rx.int; cases ry.int
    exact .inl ⟨_, _, rfl, rfl, q _ H (Ex.refl _) rep_int⟩
  · split at h
    · rename_i hl
      cases h
      cases rx.str; cases ry.str
      exact .inr (.inl ⟨_, _, rfl, rfl, of_decide_eq_true hl, q _ H (Ex.refl _) rep_str⟩)
    · cases h
  · split at h
    · rename_i hl
      cases h
      obtain ⟨a, xs, rfl, h1, r1⟩ := rx.tup
      obtain ⟨b, ys, rfl, h2, r2⟩ := ry.tup
      refine .inr (.inr (.inl ⟨a, b, xs, ys, rfl, rfl, h1, h2, by rw [r1.length, r2.length]; exact of_decide_eq_true hl, fun e => ?_, fun _ e => ?_, fun _ _ p hp => ?_⟩))
      · subst e
        have : (_ : List PyData) = [] := List.length_eq_zero_iff.mp r1.length.symm
        subst this
        exact q _ H (Ex.refl _) (rep_tup h2 r2)
      · subst e
        have : (_ : List PyData) = [] := List.length_eq_zero_iff.mp r2.length.symm
        subst this
        exact q _ H (Ex.refl _) (rep_tup h1 (by simpa using r1))
      · exact q _ _ (Ex.new hp) (rep_newT ok hp (r1.append r2))
    · cases h
  · split at h
    · rename_i hl
      cases h
      obtain ⟨a, xs, rfl, h1, r1⟩ := rx.lst
      obtain ⟨b, ys, rfl, h2, r2⟩ := ry.lst
      exact .inr (.inr (.inr ⟨a, b, xs, ys, rfl, rfl, h1, h2, by rw [r1.length, r2.length]; exact of_decide_eq_true hl, fun p hp => q _ _ (Ex.new hp) (rep_newL ok hp (r1.append r2))⟩))
    · cases h
  · cases h
/-- two ints -/
theorem e2_I0 {g : Int → Int → V} {f : Int → Int → PyData} (hg : ∀ H A i j, Rep K H A (f i j) (g i j)) : E2 K (rI0 g) (fun d e => match d, e with | .int i, .int j => some (f i j) | _, _ => none) := fun A H d e x y z ok rx ry h Q q => by
  dsimp only at h
  split at h
  · cases h
    cases rx.int; cases ry.int
    exact ⟨_, _, rfl, rfl, q _ H (Ex.refl _) (hg _ _ _ _)⟩
  · cases h
theorem e2_I {C : Int → Int → Prop} [∀ i j, Decidable (C i j)] {g : Int → Int → V} {f : Int → Int → PyData} (hg : ∀ H A i j, Rep K H A (f i j) (g i j)) : E2 K (rI C g) (fun d e => match d, e with | .int i, .int j => if C i j then some (f i j) else none | _, _ => none) := fun A H d e x y z ok rx ry h Q q => by
  dsimp only at h
  split at h
  · split at h
    · cases h
      cases rx.int; cases ry.int
      exact ⟨_, _, rfl, rfl, by assumption, q _ H (Ex.refl _) (hg _ _ _ _)⟩
    · cases h
  · cases h
instance (i j : Int) : Decidable (CDiv i j) := by unfold CDiv; infer_instance
instance (i j : Int) : Decidable (CMul i j) := by unfold CMul; infer_instance
def subD : PyData → PyData → Option PyData := fun d e => match d, e with | .int i, .int j => some (.int (i - j)) | _, _ => none
def mulD : PyData → PyData → Option PyData := fun d e => match d, e with | .int i, .int j => if CMul i j then some (.int (i * j)) else none | _, _ => none
def fdivD : PyData → PyData → Option PyData := fun d e => match d, e with | .int i, .int j => if CDiv i j then some (.int (i / j)) else none | _, _ => none
def modD : PyData → PyData → Option PyData := fun d e => match d, e with | .int i, .int j => if 0 < j then some (.int (i % j)) else none | _, _ => none
theorem e2_sub : E2 K (rI0 fun i j => .int (i - j)) subD := e2_I0 (f := fun i j => .int (i - j)) fun _ _ _ _ => rep_int
theorem e2_mul : E2 K (rI CMul fun i j => .int (i * j)) mulD := e2_I (f := fun i j => .int (i * j)) fun _ _ _ _ => rep_int
theorem e2_fdiv : E2 K (rI CDiv fun i j => .int (i / j)) fdivD := e2_I (f := fun i j => .int (i / j)) fun _ _ _ _ => rep_int
theorem e2_mod : E2 K (rI (fun _ j => 0 < j) fun i j => .int (i % j)) modD := e2_I (f := fun i j => .int (i % j)) fun _ _ _ _ => rep_int

/-! ### comparisons -/
mutual
theorem Rep.dp {H : Hp} {A : Av} : ∀ (d : PyData) (v : V), d.canLay0 = true → Rep K H A d v → Dp K H v d
  | .none, _, _, h => by simp only [Rep] at h; subst h; exact .non
  | .bool b, _, _, h => by simp only [Rep] at h; subst h; exact .bl b
  | .int i, _, _, h => by simp only [Rep] at h; subst h; exact .int i
  | .str s, _, _, h => by simp only [Rep] at h; subst h; exact .str s
  | .tuple ds, v, c, h => by
    simp only [Rep] at h
    obtain ⟨a, xs, rfl, h1, h2⟩ := h
    simp only [PyData.canLay0] at c
    exact .tup h1 (RepL.dp ds xs c h2)
  | .list ds, v, c, h => by
    simp only [Rep] at h
    obtain ⟨a, xs, rfl, _, h1, h2⟩ := h
    simp only [PyData.canLay0] at c
    exact .lst (.inl h1) (RepL.dp ds xs c h2)
  | .dict _, v, c, h => by simp [PyData.canLay0] at c
theorem RepL.dp {H : Hp} {A : Av} : ∀ (ds : List PyData) (xs : List V), PyData.canLayAll0 ds = true → RepL K H A ds xs → DpAll K H xs ds
  | [], xs, _, h => by simp only [RepL] at h; subst h; exact .nil
  | d :: ds, xs, c, h => by
    simp only [RepL] at h
    obtain ⟨y, ys, rfl, h1, h2⟩ := h
    simp only [PyData.canLayAll0, Bool.and_eq_true] at c
    exact .cons (Rep.dp d y c.1 h1) (RepL.dp ds ys c.2 h2)
end
theorem RepB.dp {H : Hp} {A : Av} {d : PyData} {v : V} (c : d.canLay0 = true) (h : RepB K H A d v) : Dp K H v d := by
  rcases h with h | ⟨a, rfl, h⟩
  · exact Rep.dp d v c h
  · cases d with
    | list ds =>
      obtain ⟨xs, h1, h2⟩ := h
      simp only [PyData.canLay0] at c
      exact .lst (SqL.of h1) (RepL.dp ds xs c h2)
    | dict _ => simp [PyData.canLay0] at c
    | none => exact h.elim
    | bool _ => exact h.elim
    | int _ => exact h.elim
    | str _ => exact h.elim
    | tuple _ => exact h.elim
def shp (d : PyData) : Bool := SeqAt.shaped d
theorem shp_lay {d : PyData} (h : shp d = true) : d.canLay0 = true := SeqAt.canLay_of_shaped h
def rEqA (K : Fg) : R2 := fun x y H Q => rEq x y H Q ∨ rEqD K x y H Q
def rNeA (K : Fg) : R2 := fun x y H Q => rNe x y H Q ∨ rNeD K x y H Q
theorem op_eqA {X : Cx} (hu : X.A.units + 64 < cLine) : OpR X (compareOp .Eq) (rEqA X.K) := op_eq.or (op_eqD hu)
theorem op_neA {X : Cx} (hu : X.A.units + 64 < cLine) : OpR X (compareOp .NotEq) (rNeA X.K) := op_ne.or (op_neD hu)
def eqB : PyData → PyData → Option Bool
  | .int a, .int b => some (decide (a = b))
  | .str a, .str b => some (decide (a = b))
  | .bool a, .bool b => some (decide (a = b))
  | d, e => if shp d && shp e then some (PyData.eqv d e) else none
def eqD (d e : PyData) : Option PyData := (eqB d e).map .bool
def neD (d e : PyData) : Option PyData := (eqB d e).map fun b => .bool (!b)
theorem map_some' {α β : Type} {a : Option α} {g : α → β} {z : β} (h : a.map g = some z) : ∃ x, a = some x ∧ z = g x := by
  cases a with
  | none => cases h
  | some x => cases h; exact ⟨x, rfl, rfl⟩
theorem dec_inj {α β : Type} [DecidableEq α] [DecidableEq β] {f : α → β} (hf : ∀ a b, f a = f b → a = b) (a b : α) : decide (f a = f b) = decide (a = b) := by
  by_cases h : a = b
  · subst h; simp
  · rw [decide_eq_false h, decide_eq_false fun z => h (hf a b z)]
theorem e2_eq : E2 K (rEqA K) eqD := fun A H d e x y z ok rx ry h Q q => by
  obtain ⟨b, hb, rfl⟩ := map_some' h
  unfold eqB at hb
  split at hb
  · cases hb
    cases rx.int; cases ry.int
    refine .inl ⟨rfl, ?_⟩
    rw [dec_inj (f := V.int) fun _ _ e => by cases e; rfl]
    exact q _ H (Ex.refl _) rep_bl
  · cases hb
    cases rx.str; cases ry.str
    refine .inl ⟨rfl, ?_⟩
    rw [dec_inj (f := V.str) fun _ _ e => by cases e; rfl]
    exact q _ H (Ex.refl _) rep_bl
  · cases hb
    cases rx.bl; cases ry.bl
    refine .inl ⟨rfl, ?_⟩
    rw [dec_inj (f := V.bl) fun _ _ e => by cases e; rfl]
    exact q _ H (Ex.refl _) rep_bl
  · split at hb
    · rename_i hs
      cases hb
      obtain ⟨h1, h2⟩ := Bool.and_eq_true_iff.mp hs
      exact .inr ⟨d, e, rx.dp (shp_lay h1), ry.dp (shp_lay h2), h1, h2, q _ H (Ex.refl _) rep_bl⟩
    · cases hb
theorem e2_ne : E2 K (rNeA K) neD := fun A H d e x y z ok rx ry h Q q => by
  obtain ⟨b, hb, rfl⟩ := map_some' h
  unfold eqB at hb
  split at hb
  · cases hb
    cases rx.int; cases ry.int
    refine .inl ⟨rfl, ?_⟩
    rw [dec_inj (f := V.int) fun _ _ e => by cases e; rfl]
    exact q _ H (Ex.refl _) rep_bl
  · cases hb
    cases rx.str; cases ry.str
    refine .inl ⟨rfl, ?_⟩
    rw [dec_inj (f := V.str) fun _ _ e => by cases e; rfl]
    exact q _ H (Ex.refl _) rep_bl
  · cases hb
    cases rx.bl; cases ry.bl
    refine .inl ⟨rfl, ?_⟩
    rw [dec_inj (f := V.bl) fun _ _ e => by cases e; rfl]
    exact q _ H (Ex.refl _) rep_bl
  · split at hb
    · rename_i hs
      cases hb
      obtain ⟨h1, h2⟩ := Bool.and_eq_true_iff.mp hs
      exact .inr ⟨d, e, rx.dp (shp_lay h1), ry.dp (shp_lay h2), h1, h2, q _ H (Ex.refl _) rep_bl⟩
    · cases hb
/-! order of ints and of texts -/
def rOrd (fi : Int → Int → Bool) (fs : Str → Str → Bool) : R2 := fun x y H Q => rI0 (fun i j => .bl (fi i j)) x y H Q ∨ ∃ i j, x = .str i ∧ y = .str j ∧ Q (.bl (fs i j)) H
def ordD (fi : Int → Int → Bool) (fs : Str → Str → Bool) : PyData → PyData → Option PyData
  | .int a, .int b => some (.bool (fi a b))
  | .str a, .str b => some (.bool (fs a b))
  | _, _ => none
theorem e2_ord {fi : Int → Int → Bool} {fs : Str → Str → Bool} : E2 K (rOrd fi fs) (ordD fi fs) := fun A H d e x y z ok rx ry h Q q => by
  unfold ordD at h
  split at h
  · cases h
    cases rx.int; cases ry.int
    exact .inl ⟨_, _, rfl, rfl, q _ H (Ex.refl _) rep_bl⟩
  · cases h
    cases rx.str; cases ry.str
    exact .inr ⟨_, _, rfl, rfl, q _ H (Ex.refl _) rep_bl⟩
  · cases h
def sLt (i j : Str) : Bool := decide (i.cps.toList < j.cps.toList)
def rLtA : R2 := rOrd (fun i j => decide (i < j)) sLt
def ltD := ordD (fun i j => decide (i < j)) sLt
theorem op_ltA {X : Cx} : OpR X (compareOp .Lt) rLtA := op_lt.or op_lt_str
theorem e2_lt : E2 K rLtA ltD := e2_ord
def rLe0 : R2 := rI0 fun i j => .bl (decide (i ≤ j))
def rGt0 : R2 := rI0 fun i j => .bl (decide (j < i))
def rGe0 : R2 := rI0 fun i j => .bl (decide (j ≤ i))
theorem op_le0 {X : Cx} : OpR X (compareOp .LtE) rLe0 := op_le
theorem op_gt0 {X : Cx} : OpR X (compareOp .Gt) rGt0 := op_gt
theorem op_ge0 {X : Cx} : OpR X (compareOp .GtE) rGe0 := op_ge
def leD : PyData → PyData → Option PyData := fun d e => match d, e with | .int i, .int j => some (.bool (decide (i ≤ j))) | _, _ => none
def gtD : PyData → PyData → Option PyData := fun d e => match d, e with | .int i, .int j => some (.bool (decide (j < i))) | _, _ => none
def geD : PyData → PyData → Option PyData := fun d e => match d, e with | .int i, .int j => some (.bool (decide (j ≤ i))) | _, _ => none
theorem e2_le : E2 K rLe0 leD := e2_I0 (f := fun i j => .bool (decide (i ≤ j))) fun _ _ _ _ => rep_bl
theorem e2_gt : E2 K rGt0 gtD := e2_I0 (f := fun i j => .bool (decide (j < i))) fun _ _ _ _ => rep_bl
theorem e2_ge : E2 K rGe0 geD := e2_I0 (f := fun i j => .bool (decide (j ≤ i))) fun _ _ _ _ => rep_bl
/-! is, is not: None, True, False -/
def rIsA : R2 := fun x y H Q => (y = .non ∧ Q (.bl (decide (x = .non))) H) ∨ ∃ a b, x = .bl a ∧ y = .bl b ∧ Q (.bl (decide (a = b))) H
def rIsNotA : R2 := fun x y H Q => (y = .non ∧ Q (.bl (!decide (x = .non))) H) ∨ ∃ a b, x = .bl a ∧ y = .bl b ∧ Q (.bl (!decide (a = b))) H
theorem op_isA {X : Cx} : OpR X (compareOp .Is) rIsA := op_isN.or op_is_bl
theorem op_isNotA {X : Cx} : OpR X (compareOp .IsNot) rIsNotA := op_notN.or op_isnot_bl
def isNone : PyData → Bool
  | .none => true
  | _ => false
def isB : PyData → PyData → Option Bool
  | d, .none => some (isNone d)
  | .bool a, .bool b => some (decide (a = b))
  | _, _ => none
def isD (d e : PyData) : Option PyData := (isB d e).map .bool
def isNotD (d e : PyData) : Option PyData := (isB d e).map fun b => .bool (!b)
theorem isNone_dec {H : Hp} {A : Av} {d : PyData} {v : V} (h : RepB K H A d v) : decide (v = .non) = isNone d := by
  cases d with
  | none => cases h.non; rfl
  | bool b => cases h.bl; rfl
  | int b => cases h.int; rfl
  | str b => cases h.str; rfl
  | list b => obtain ⟨a, xs, rfl, _⟩ := h.lst; rfl
  | tuple b => obtain ⟨a, xs, rfl, _⟩ := h.tup; rfl
  | dict b =>
    rcases h with h | ⟨a, rfl, _⟩
    · simp only [Rep] at h
      obtain ⟨a, ps, rfl, _⟩ := h
      rfl
    · rfl
theorem e2_is : E2 K rIsA isD := fun A H d e x y z ok rx ry h Q q => by
  obtain ⟨b, hb, rfl⟩ := map_some' h
  unfold isB at hb
  split at hb
  · cases hb
    cases ry.non
    refine .inl ⟨rfl, ?_⟩
    rw [isNone_dec rx]
    exact q _ H (Ex.refl _) rep_bl
  · cases hb
    cases rx.bl; cases ry.bl
    exact .inr ⟨_, _, rfl, rfl, q _ H (Ex.refl _) rep_bl⟩
  · cases hb
theorem e2_isNot : E2 K rIsNotA isNotD := fun A H d e x y z ok rx ry h Q q => by
  obtain ⟨b, hb, rfl⟩ := map_some' h
  unfold isB at hb
  split at hb
  · cases hb
    cases ry.non
    refine .inl ⟨rfl, ?_⟩
    rw [isNone_dec rx]
    exact q _ H (Ex.refl _) rep_bl
  · cases hb
    cases rx.bl; cases ry.bl
    exact .inr ⟨_, _, rfl, rfl, q _ H (Ex.refl _) rep_bl⟩
  · cases hb
/-! in, not in: lists, tuples, texts -/
def rInAny (K : Fg) (n : Bool) : R2 := fun x y H Q => ∃ d e ds, Dp K H x d ∧ (e = .list ds ∨ e = .tuple ds) ∧ Dp K H y e ∧ SeqAt.shaped d = true ∧ SeqAt.shaped e = true ∧ Q (.bl (if n then !(ds.any fun z => PyData.eqv z d) else ds.any fun z => PyData.eqv z d)) H
theorem op_inAny {X : Cx} (hu : X.A.units + 65 < cLine) : OpR X (compareOp .In) (rInAny X.K false) := by
  intro pins s σ H x y v u Q I rx ry h
  obtain ⟨d, e, ds, hd, he, hy, sd, se, q⟩ := h
  obtain ⟨as, r1⟩ := Dp.reads I d x v hd rx
  obtain ⟨bs, r2⟩ := Dp.reads I e y u hy ry
  rcases he with rfl | rfl
  · exact SeqAt.in_list_reads r2 r1 (SeqAt.canLay_of_shaped se) (SeqAt.canLay_of_shaped sd) (PyProof.Rows.room_in_shaped sd hu) ⟨.bl _, H, I, rfl, q⟩
  · exact SeqAt.in_tuple_reads r2 r1 (SeqAt.canLay_of_shaped se) (SeqAt.canLay_of_shaped sd) (PyProof.Rows.room_in_shaped sd hu) ⟨.bl _, H, I, rfl, q⟩
theorem op_notInAny {X : Cx} (hu : X.A.units + 65 < cLine) : OpR X (compareOp .NotIn) (rInAny X.K true) := by
  intro pins s σ H x y v u Q I rx ry h
  obtain ⟨d, e, ds, hd, he, hy, sd, se, q⟩ := h
  obtain ⟨as, r1⟩ := Dp.reads I d x v hd rx
  obtain ⟨bs, r2⟩ := Dp.reads I e y u hy ry
  rcases he with rfl | rfl
  · exact SeqAt.notIn_list_reads r2 r1 (SeqAt.canLay_of_shaped se) (SeqAt.canLay_of_shaped sd) (PyProof.Rows.room_in_shaped sd hu) ⟨.bl _, H, I, rfl, q⟩
  · exact SeqAt.notIn_tuple_reads r2 r1 (SeqAt.canLay_of_shaped se) (SeqAt.canLay_of_shaped sd) (PyProof.Rows.room_in_shaped sd hu) ⟨.bl _, H, I, rfl, q⟩
def itemsOf : PyData → Option (List PyData)
  | .list ds => some ds
  | .tuple ds => some ds
  | _ => none
def inB (d e : PyData) : Option Bool := match itemsOf e with
  | some ds => if shp d && shp e then some (ds.any fun z => PyData.eqv z d) else none
  | none => none
def inD (d e : PyData) : Option PyData := (inB d e).map .bool
def notInD (d e : PyData) : Option PyData := (inB d e).map fun b => .bool (!b)
theorem items_or {e : PyData} {ds : List PyData} (h : itemsOf e = some ds) : e = .list ds ∨ e = .tuple ds := by
  cases e <;> simp [itemsOf] at h
  · subst h; exact .inl rfl
  · subst h; exact .inr rfl
theorem inB_some {d e : PyData} {b : Bool} (h : inB d e = some b) : ∃ ds, itemsOf e = some ds ∧ shp d = true ∧ shp e = true ∧ b = ds.any fun z => PyData.eqv z d := by
  unfold inB at h
  split at h
  · split at h
    · rename_i hs
      cases h
      obtain ⟨h1, h2⟩ := Bool.and_eq_true_iff.mp hs
      exact ⟨_, by assumption, h1, h2, rfl⟩
    · cases h
  · cases h
theorem e2_in : E2 K (rInAny K false) inD := fun A H d e x y z ok rx ry h Q q => by
  obtain ⟨b, hb, rfl⟩ := map_some' h
  obtain ⟨ds, hi, h1, h2, rfl⟩ := inB_some hb
  exact ⟨d, e, ds, rx.dp (shp_lay h1), items_or hi, ry.dp (shp_lay h2), h1, h2, q _ H (Ex.refl _) rep_bl⟩
theorem e2_notIn : E2 K (rInAny K true) notInD := fun A H d e x y z ok rx ry h Q q => by
  obtain ⟨b, hb, rfl⟩ := map_some' h
  obtain ⟨ds, hi, h1, h2, rfl⟩ := inB_some hb
  exact ⟨d, e, ds, rx.dp (shp_lay h1), items_or hi, ry.dp (shp_lay h2), h1, h2, q _ H (Ex.refl _) rep_bl⟩

/-! a op b op c -/
def chainD (f g : PyData → PyData → Option PyData) (a b c : Option PyData) : Option PyData := match a with
  | none => none
  | some x => match b with
    | none => none
    | some y => match f x y with
      | some (.bool true) => (match c with
        | none => none
        | some z => g y z)
      | some (.bool false) => some (.bool false)
      | _ => none
theorem ef_chain {r r' : R2} {f g : PyData → PyData → Option PyData} {ta tb tc : TE} {fa fb fc : Rho → Option PyData} (h : E2 K r f) (h' : E2 K r' g) (ha : EF K ta fa) (hb : EF K tb fb) (hc : EF K tc fc) : EF K (tChain r r' ta tb tc) (fun ρ => chainD f g (fa ρ) (fb ρ) (fc ρ)) := fun A ρ σ H d rs e H1 e1 Q q => by
  dsimp only [chainD] at e
  split at e
  · cases e
  · rename_i x ex
    split at e
    · cases e
    · rename_i y ey
      refine ha A ρ σ H x rs ex H1 e1 _ fun v H2 e2 r2 => ?_
      have av2 := (rs.av.mono e1).mono e2
      refine hb A ρ σ H y rs ey H2 (e1.trans e2) _ fun w H3 e3 r3 => ?_
      have av3 := av2.mono e3
      split at e
      · rename_i h1
        refine h A H3 x y v w _ av3 (.inl (r2.mono av2 e3)) (.inl r3) h1 _ fun z H4 e4 r4 => ?_
        simp only [Rep] at r4
        subst r4
        refine ⟨true, rfl, ?_⟩
        split at e
        · cases e
        · rename_i z ez
          show tc σ H4 _
          refine hc A ρ σ H z rs ez H4 (((e1.trans e2).trans e3).trans e4) _ fun u H5 e5 r5 => ?_
          exact h' A H5 y z w u d ((av3.mono e4).mono e5) (.inl ((r3.mono av3 e4).mono (av3.mono e4) e5)) (.inl r5) e Q fun v H6 e6 r6 => q v H6 ((((e2.trans e3).trans e4).trans e5).trans e6) r6
      · rename_i h1
        cases e
        refine h A H3 x y v w _ av3 (.inl (r2.mono av2 e3)) (.inl r3) h1 _ fun z H4 e4 r4 => ?_
        simp only [Rep] at r4
        subst r4
        exact ⟨false, rfl, q _ H4 ((e2.trans e3).trans e4) rep_bl⟩
      · cases e

/-! ### subscripts -/
def rIxA (K : Fg) : R2 := fun x y H Q => rIxT K x y H Q ∨ rIxL K x y H Q ∨ rIxS x y H Q
theorem ix_all {X : Cx} : IxR X (rIxA X.K) := ix_tup.or (ix_list.or ix_str)
def ixD : PyData → PyData → Option PyData
  | .tuple ds, .int i => atI ds i
  | .list ds, .int i => atI ds i
  | .str z, .int i => if lenOk z.length then (atI z.cps.toList i).map fun c => .str ⟨#[c]⟩ else none
  | _, _ => none
theorem RepL.atI {H : Hp} {A : Av} {ds : List PyData} {xs : List V} {i : Int} {d : PyData} (r : RepL K H A ds xs) (h : L2.atI ds i = some d) : ∃ v, L2.atI xs i = some v ∧ Rep K H A d v := by
  unfold L2.atI at h ⊢
  rw [r.length]
  obtain ⟨j, h1, h2⟩ := bind_some' h
  rw [h1]
  exact r.get h2
theorem e2_ix : E2 K (rIxA K) ixD := fun A H d e x y z ok rx ry h Q q => by
  unfold ixD at h
  split at h
  · obtain ⟨a, xs, rfl, h1, r1⟩ := rx.tup
    cases ry.int
    obtain ⟨v, hv, rv⟩ := r1.atI h
    exact .inl ⟨a, xs, _, v, rfl, rfl, h1, hv, q v H (Ex.refl _) rv⟩
  · obtain ⟨a, xs, rfl, h1, r1⟩ := rx.lst
    cases ry.int
    obtain ⟨v, hv, rv⟩ := r1.atI h
    exact .inr (.inl ⟨a, xs, _, v, rfl, rfl, .inl h1, hv, q v H (Ex.refl _) rv⟩)
  · split at h
    · rename_i hl
      obtain ⟨c, hc, rfl⟩ := map_some' h
      cases rx.str; cases ry.int
      exact .inr (.inr ⟨_, _, c, rfl, rfl, of_decide_eq_true hl, hc, q _ H (Ex.refl _) rep_str⟩)
    · cases h
  · cases h
/-! slices -/
def EO (K : Fg) (t : TO) (f : Rho → Option (Option Int)) : Prop := ∀ A ρ σ H o, RS K A ρ σ H → f ρ = some o → ∀ H1, Ex H H1 → ∀ Q : Option Int → Hp → Prop, (∀ H2, Ex H1 H2 → Q o H2) → t σ H1 Q
theorem eo_none : EO K tNoPart (fun _ => some none) := fun A ρ σ H o rs e H1 e1 Q q => by
  cases e
  exact q H1 (Ex.refl _)
def asI : PyData → Option Int
  | .int i => some i
  | _ => none
theorem asI_some {d : PyData} {b : Int} (h : asI d = some b) : d = .int b := by
  cases d <;> simp [asI] at h
  subst h; rfl
theorem eo_some {te : TE} {fe : Rho → Option PyData} (h : EF K te fe) : EO K (tPart te) (fun ρ => ((fe ρ).bind asI).map some) := fun A ρ σ H o rs e H1 e1 Q q => by
  obtain ⟨i, hi, rfl⟩ := map_some' e
  obtain ⟨d, hd, h2⟩ := bind_some' hi
  cases asI_some h2
  refine h A ρ σ H _ rs hd H1 e1 _ fun v H2 e2 r => ⟨i, by simpa only [Rep] using r, q H2 e2⟩
def cutL {α : Type} (xs : List α) (lo hi : Option Int) : List α := (xs.drop (HT.sIx xs.length 0 lo)).take (HT.sIx xs.length xs.length hi - HT.sIx xs.length 0 lo)
def rSlAll (K : Fg) : V → Option Int → Option Int → Hp → VK → Prop := fun x lo hi H Q => rSlA K x lo hi H Q ∨ rSlL K x lo hi H Q
theorem sl_all {X : Cx} : SlR X (rSlAll X.K) := sl_tupA.or sl_list
def slD (d : PyData) (lo hi : Option Int) : Option PyData := match d with
  | .tuple ds => some (.tuple (cutL ds lo hi))
  | .list ds => some (.list (cutL ds lo hi))
  | _ => none
theorem RepL.cut {H : Hp} {A : Av} {ds : List PyData} {xs : List V} (r : RepL K H A ds xs) (lo hi : Option Int) : RepL K H A (cutL ds lo hi) (cutV xs lo hi) := by
  unfold cutL cutV
  rw [r.length]
  exact (r.drop _).take _
theorem cut_whole {α β : Type} {ds : List α} {xs : List β} {lo hi : Option Int} (hl : xs.length = ds.length) (hw : HT.sIx xs.length 0 lo = 0 ∧ HT.sIx xs.length xs.length hi = xs.length) : cutL ds lo hi = ds := by
  unfold cutL
  rw [← hl, hw.1, hw.2]
  simp only [List.drop_zero, Nat.sub_zero]
  exact List.take_of_length_le (Nat.le_of_eq hl.symm)
theorem ef_sl {te : TE} {tl th : TO} {fe : Rho → Option PyData} {fl fh : Rho → Option (Option Int)} (h : EB K te fe) (hl : EO K tl fl) (hh : EO K th fh) : EF K (tSl (rSlAll K) te tl th) (fun ρ => (fe ρ).bind fun d => bnd2 (fl ρ) (fh ρ) (slD d)) := fun A ρ σ H z rs e H1 e1 Q q => by
  obtain ⟨d, hd, e⟩ := bind_some' e
  obtain ⟨lo, hi, el, eh, e⟩ := bnd2_some e
  refine h A ρ σ H d rs hd H1 e1 _ fun v H2 e2 rv => ?_
  refine hl A ρ σ H lo rs el H2 (e1.trans e2) _ fun H3 e3 => ?_
  refine hh A ρ σ H hi rs eh H3 ((e1.trans e2).trans e3) _ fun H4 e4 => ?_
  have ok2 := (rs.av.mono e1).mono e2
  have ok4 := (ok2.mono e3).mono e4
  have rv := rv.mono ok2 (e3.trans e4)
  unfold slD at e
  split at e
  · cases e
    obtain ⟨a, xs, rfl, h1, r1⟩ := rv.tup
    refine .inl ⟨a, xs, rfl, h1, fun hw => ?_, fun _ p hp => ?_⟩
    · rw [cut_whole r1.length hw] at q
      exact q _ H4 ((e2.trans e3).trans e4) (rep_tup h1 r1)
    · exact q _ _ (((e2.trans e3).trans e4).trans (Ex.new hp)) (rep_newT ok4 hp (r1.cut lo hi))
  · cases e
    obtain ⟨a, xs, rfl, h1, r1⟩ := rv.lst
    exact .inr ⟨a, xs, rfl, .inl h1, fun p hp => q _ _ (((e2.trans e3).trans e4).trans (Ex.new hp)) (rep_newL ok4 hp (r1.cut lo hi))⟩
  · cases e

/-! ### built-in calls -/
def rLenA (K : Fg) : List V → Hp → VK → Prop := fun xs H Q => ∃ x n, xs = [x] ∧ LenV K x H n ∧ Q (.int n) H
theorem call_lenA {X : Cx} : CallR X (.builtin "len") (rLenA X.K) := call_len
def lenD : PyData → Option PyData
  | .str z => if lenOk z.length then some (.int z.length) else none
  | .list ds => some (.int ds.length)
  | .tuple ds => some (.int ds.length)
  | _ => none
/-- one argument that may be a name's own -/
theorem ef_cb1 {r : List V → Hp → VK → Prop} {g : PyData → Option PyData} {ta : TE} {fa : Rho → Option PyData} (h : E1 K (fun x => r [x]) g) (ha : EB K ta fa) : EF K (tCB r (tCons ta tNil)) (fun ρ => (fa ρ).bind g) := fun A ρ σ H d rs e H1 e1 Q q => by
  obtain ⟨x, ex, eg⟩ := bind_some' e
  refine ha A ρ σ H x rs ex H1 e1 _ fun v H2 e2 r2 => ?_
  exact h A H2 x v d ((rs.av.mono e1).mono e2) r2 eg Q fun v H4 e4 r4 => q v H4 (e2.trans e4) r4
theorem e1_len : E1 K (fun x => rLenA K [x]) lenD := fun A H d x z ok rx h Q q => by
  unfold lenD at h
  split at h
  · split at h
    · rename_i hl
      cases h
      cases rx.str
      exact ⟨_, _, rfl, ⟨of_decide_eq_true hl, rfl⟩, q _ H (Ex.refl _) rep_int⟩
    · cases h
  · cases h
    obtain ⟨a, xs, rfl, h1, r1⟩ := rx.lst
    refine ⟨_, _, rfl, .inl ⟨xs, .inl h1, rfl⟩, ?_⟩
    rw [r1.length]
    exact q _ H (Ex.refl _) rep_int
  · cases h
    obtain ⟨a, xs, rfl, h1, r1⟩ := rx.tup
    refine ⟨_, _, rfl, .inr ⟨xs, h1, rfl⟩, ?_⟩
    rw [r1.length]
    exact q _ H (Ex.refl _) rep_int
  · cases h
/-- tuple(x), list(x) -/
def rTupleA (K : Fg) : List V → Hp → VK → Prop := fun xs H Q => ∃ p ys, xs = [.ref p] ∧ ((SqL K H p ys ∧ ∀ l, H l = none → Q (.ref l) (upd H l (.tup ys))) ∨ (SqT K H p ys ∧ Q (.ref p) H))
theorem call_tupleA {X : Cx} : CallR X (.type "tuple") (rTupleA X.K) := call_tuple_of
def tupleD : PyData → Option PyData
  | .list ds => some (.tuple ds)
  | .tuple ds => some (.tuple ds)
  | _ => none
theorem e1_tuple : E1 K (fun x => rTupleA K [x]) tupleD := fun A H d x z ok rx h Q q => by
  unfold tupleD at h
  split at h
  · cases h
    obtain ⟨a, xs, rfl, h1, r1⟩ := rx.lst
    exact ⟨a, xs, rfl, .inl ⟨.inl h1, fun l hl => q _ _ (Ex.new hl) (rep_newT ok hl r1)⟩⟩
  · cases h
    obtain ⟨a, xs, rfl, h1, r1⟩ := rx.tup
    exact ⟨a, xs, rfl, .inr ⟨h1, q _ H (Ex.refl _) (rep_tup h1 r1)⟩⟩
  · cases h
theorem call_listA {X : Cx} : CallR X (.type "list") (rListS X.K) := call_list_of
def listD : PyData → Option PyData
  | .list ds => some (.list ds)
  | .tuple ds => some (.list ds)
  | _ => none
theorem e1_list : E1 K (fun x => rListS K [x]) listD := fun A H d x z ok rx h Q q => by
  unfold listD at h
  split at h
  · cases h
    obtain ⟨a, xs, rfl, h1, r1⟩ := rx.lst
    exact ⟨a, xs, rfl, .inl (.inl h1), fun l hl => q _ _ (Ex.new hl) (rep_newL ok hl r1)⟩
  · cases h
    obtain ⟨a, xs, rfl, h1, r1⟩ := rx.tup
    exact ⟨a, xs, rfl, .inr h1, fun l hl => q _ _ (Ex.new hl) (rep_newL ok hl r1)⟩
  · cases h
/-- isinstance(x, T), T a built-in class -/
def tyName : PyData → String
  | .none => "NoneType"
  | .bool _ => "bool"
  | .int _ => "int"
  | .str _ => "str"
  | .list _ => "list"
  | .tuple _ => "tuple"
  | .dict _ => "dict"
theorem tyX_of {H : Hp} {A : Av} {d : PyData} {v : V} (h : RepB K H A d v) : TyX K H v (.type (tyName d)) := by
  cases d with
  | none => cases h.non; exact .base .non
  | bool b => cases h.bl; exact .base (.bl b)
  | int b => cases h.int; exact .base (.int b)
  | str b => cases h.str; exact .base (.str b)
  | list b =>
    obtain ⟨a, xs, rfl, h1, _⟩ := h.lst
    rcases h1 with h1 | ⟨o, h1⟩
    · exact .base (.lst h1)
    · exact .base (.frz h1)
  | tuple b =>
    obtain ⟨a, xs, rfl, h1, _⟩ := h.tup
    rcases h1 with (h1 | ⟨o, h1⟩) | ⟨o, its, n, h1, h2, _⟩
    · exact .base (.tup h1)
    · exact .fTuple h1
    · exact .kTuple h1 h2
  | dict b =>
    rcases h with h | ⟨a, rfl, ps, h, _⟩
    · simp only [Rep] at h
      obtain ⟨a, ps, rfl, _, h, _⟩ := h
      exact .base (.dK h)
    · exact .base (.dK h)
def isiD (T : String) (d : PyData) : Option PyData := (kitB (tyName d) T).map .bool
theorem ef_isi {T : String} {ta : TE} {fa : Rho → Option PyData} (ha : EB K ta fa) : EF K (tCB (rIsi K) (tCons ta (tCons (tC (.ty T)) tNil))) (fun ρ => (fa ρ).bind (isiD T)) := fun A ρ σ H z rs e H1 e1 Q q => by
  obtain ⟨d, hd, e⟩ := bind_some' e
  obtain ⟨b, hb, rfl⟩ := map_some' e
  refine ha A ρ σ H d rs hd H1 e1 _ fun v H2 e2 rv => ?_
  exact ⟨v, .ty T, _, _, b, rfl, .ty T, tyX_of rv, kit_ty hb, q _ H2 e2 rep_bl⟩
end

/-! ### what is walked -/
section
variable {X : Cx} {tg : Expr}
/-- a list, a tuple or a text -/
def iSeq (K : Fg) (tl : TE) : TI := fun σ H R => tl σ H fun x H1 => (∃ a, x = .ref a ∧ (∃ xs, SqL K H1 a xs) ∧ R (Itl K a) H1) ∨ (∃ a, x = .ref a ∧ (∃ xs, SqT K H1 a xs) ∧ R (Itt K a) H1) ∨ ∃ z, x = .str z ∧ R (Its z) H1
theorem pi_seq {l : Expr} {tl : TE} (hl : PE X l tl) : PI X tg l (iSeq X.K tl) := by
  refine ⟨fun pins s σ H R I h => ?_⟩
  refine thn (hl.run pins s σ H _ I h) fun v s1 ⟨x, H1, I1, r1, q1⟩ => ?_
  rcases q1 with ⟨a, e, ⟨xs, hq⟩, q⟩ | ⟨a, e, ⟨xs, hq⟩, q⟩ | ⟨z, e, q⟩
  · subst e
    cases r1
    obtain ⟨its, rv, p, hz⟩ := I1.list hq
    refine wpAny_pyIter_list p.isList ?_
    refine ⟨s1.heap.objs.size, [s1.heap.objs.size], _, _, H1, rfl, I1.kept (t' := s1.toks) fun b o e => Heap.get?_push_of_some _ e, turn_list a _, ⟨_, Heap.get?_push_size _ rfl, rfl, rfl⟩, fun b hb => ?_, q⟩
    have e : b = s1.heap.objs.size := by simpa using hb
    subst e
    exact I1.fpOk (Nat.le_refl _) (I1.hok.fresh (Nat.le_refl _))
  · subst e
    cases r1
    obtain ⟨its, rv, p, hz⟩ := I1.tuple hq
    refine wpAny_pyIter_tuple (show s1.heap.IsTuple a its.toArray from p) ?_
    refine ⟨s1.heap.objs.size, [s1.heap.objs.size], _, _, H1, rfl, I1.kept (t' := s1.toks) fun b o e => Heap.get?_push_of_some _ e, turn_tuple a _, ⟨_, Heap.get?_push_size _ rfl, rfl, rfl⟩, fun b hb => ?_, q⟩
    have e : b = s1.heap.objs.size := by simpa using hb
    subst e
    exact I1.fpOk (Nat.le_refl _) (I1.hok.fresh (Nat.le_refl _))
  · subst e
    obtain ⟨t, rfl⟩ := r1
    cases ha : z.cps.all (· < 128)
    · exact wpAny_pyIter_wide ha (pi_one (tk := s1.toks) I1 _ (turn_str _ z t "str_iterator" (.inr rfl)) ⟨_, Heap.get?_push_size _ rfl, rfl, rfl⟩ q)
    · exact wpAny_pyIter_ascii ha (pi_one (tk := s1.toks) I1 _ (turn_str _ z t "str_ascii_iterator" (.inl rfl)) ⟨_, Heap.get?_push_size _ rfl, rfl, rfl⟩ q)
end
section
variable {K : Fg}
/-- what is walked, of what stands -/
def walkD : PyData → Option (List PyData)
  | .list ds => some ds
  | .tuple ds => some ds
  | .str z => some (z.cps.toList.map fun c => .str ⟨#[c]⟩)
  | _ => none
theorem iter_tup {A : Av} {H : Hp} {a : Addr} {xs : List V} {ds : List PyData} (ok : AvOk A H) (h1 : SqT K H a xs) (r : RepL K H A ds xs) : Iter K A (Itt K a) H ds (Kp A H) := by
  refine ⟨fun i Ha hi k => ?_, fun Ha k => ?_, fun B i x Ha Hc d hb hd k y => ?_⟩
  · exact (walk_tup (xs := xs)).goes i Ha (by rw [r.length]; exact hi) (SqT.keep ok k h1)
  · have := (walk_tup (xs := xs)).stops Ha (SqT.keep ok k h1)
    rw [r.length] at this
    exact this
  · have hi : i < ds.length := (List.getElem?_eq_some_iff.mp hd).1
    obtain ⟨e, hx⟩ := (walk_tup (xs := xs)).yields i Ha x Hc (by rw [r.length]; exact hi) (SqT.keep ok k h1) y
    subst e
    obtain ⟨v, hv, rv⟩ := r.get hd
    rw [hx] at hv; cases hv
    exact ⟨Ex.refl _, Rep.keep2 ok k hb _ _ rv⟩
theorem iter_lst {A : Av} {H : Hp} {a : Addr} {xs : List V} {ds : List PyData} {P : Hp → Prop} (ok : AvOk A H) (hP : ∀ Ha, P Ha → SqL K Ha a xs ∧ Kp A H Ha) (r : RepL K H A ds xs) : Iter K A (Itl K a) H ds P := by
  refine ⟨fun i Ha hi k => ?_, fun Ha k => ?_, fun B i x Ha Hc d hb hd k y => ?_⟩
  · exact (walk_list (xs := xs)).goes i Ha (by rw [r.length]; exact hi) (hP Ha k).1
  · have := (walk_list (xs := xs)).stops Ha (hP Ha k).1
    rw [r.length] at this
    exact this
  · have hi : i < ds.length := (List.getElem?_eq_some_iff.mp hd).1
    obtain ⟨e, hx⟩ := (walk_list (xs := xs)).yields i Ha x Hc (by rw [r.length]; exact hi) (hP Ha k).1 y
    subst e
    obtain ⟨v, hv, rv⟩ := r.get hd
    rw [hx] at hv; cases hv
    exact ⟨Ex.refl _, Rep.keep2 ok (hP _ k).2 hb _ _ rv⟩
theorem iter_str {A : Av} {H : Hp} {z : Str} {P : Hp → Prop} : Iter K A (Its z) H (z.cps.toList.map fun c => .str ⟨#[c]⟩) P := by
  refine ⟨fun i Ha hi k => ?_, fun Ha k => ?_, fun B i x Ha Hc d hb hd k y => ?_⟩
  · exact walk_str.goes i Ha (by simpa using hi) trivial
  · have := (walk_str (z := z)).stops Ha trivial
    simpa using this
  · have hi : i < z.cps.size := by
      have := (List.getElem?_eq_some_iff.mp hd).1
      simpa using this
    obtain ⟨e, c, hc, hx⟩ := (walk_str (z := z)).yields i Ha x Hc hi trivial y
    subst e
    subst hx
    refine ⟨Ex.refl _, ?_⟩
    rw [List.getElem?_map] at hd
    have : z.cps.toList[i]? = some c := by simpa using hc
    rw [this] at hd
    cases hd
    exact rep_str
theorem ei_seq {tl : TE} {f : Rho → Option PyData} (h : EF K tl f) : EI K (iSeq K tl) (fun ρ => (f ρ).bind walkD) := fun A ρ σ H ds rs e H1 e1 R k => by
  obtain ⟨d, hd, e⟩ := bind_some' e
  refine h A ρ σ H d rs hd H1 e1 _ fun v H2 e2 rv => ?_
  have ok := (rs.av.mono e1).mono e2
  unfold walkD at e
  split at e
  · cases e
    simp only [Rep] at rv
    obtain ⟨a, xs, rfl, na, h1, r1⟩ := rv
    exact .inl ⟨a, rfl, ⟨xs, .inl h1⟩, k _ H2 e2 (iter_lst ok (fun Ha kp => ⟨.inl (Rd.keepN kp na h1), kp⟩) r1)⟩
  · cases e
    simp only [Rep] at rv
    obtain ⟨a, xs, rfl, h1, r1⟩ := rv
    exact .inr (.inl ⟨a, rfl, ⟨xs, h1⟩, k _ H2 e2 (iter_tup ok h1 r1)⟩)
  · cases e
    simp only [Rep] at rv
    subst rv
    exact .inr (.inr ⟨_, rfl, k _ H2 e2 iter_str⟩)
  · cases e
theorem eib_seq {tl : TE} {f : Rho → Option PyData} (h : EB K tl f) : EIb K (iSeq K tl) (fun ρ => (f ρ).bind walkD) := fun A ρ σ H ds rs e H1 e1 R k => by
  obtain ⟨d, hd, e⟩ := bind_some' e
  refine h A ρ σ H d rs hd H1 e1 _ fun v H2 e2 rv => ?_
  have ok := (rs.av.mono e1).mono e2
  unfold walkD at e
  split at e
  · cases e
    obtain ⟨a, xs, rfl, h1, r1⟩ := rv.lst
    exact .inl ⟨a, rfl, ⟨xs, .inl h1⟩, k _ H2 e2 (iter_lst ok (fun Ha x => ⟨.inl (ex_rd x h1), Kp.ofEx x⟩) r1)⟩
  · cases e
    obtain ⟨a, xs, rfl, h1, r1⟩ := rv.tup
    exact .inr (.inl ⟨a, rfl, ⟨xs, h1⟩, k _ H2 e2 ((iter_tup ok h1 r1).imp fun _ x => Kp.ofEx x)⟩)
  · cases e
    cases rv.str
    exact .inr (.inr ⟨_, rfl, k _ H2 e2 iter_str⟩)
  · cases e
/-- range -/
def rngD (lo hi : Int) : List PyData := (List.range (hi - lo).toNat).map fun (i : Nat) => .int (lo + (i : Int))
def rngOk (i : Int) : Bool := decide (-(2 ^ 62) ≤ i ∧ i < 2 ^ 62)
theorem iter_range {A : Av} {H : Hp} {lo hi : Int} {P : Hp → Prop} : Iter K A (Itr lo (hi - lo).toNat) H (rngD lo hi) P := by
  have hl : (rngD lo hi).length = (hi - lo).toNat := by unfold rngD; simp
  refine ⟨fun i Ha hi' k => ?_, fun Ha k => ?_, fun B i x Ha Hc d hb hd k y => ?_⟩
  · exact walk_range.goes i Ha (by rw [← hl]; exact hi') trivial
  · rw [hl]
    exact (walk_range (lo := lo)).stops Ha trivial
  · have hi' : i < (hi - lo).toNat := by rw [← hl]; exact (List.getElem?_eq_some_iff.mp hd).1
    obtain ⟨e, hx⟩ := (walk_range (lo := lo)).yields i Ha x Hc hi' trivial y
    subst e
    subst hx
    refine ⟨Ex.refl _, ?_⟩
    unfold rngD at hd
    rw [List.getElem?_map, List.getElem?_range hi'] at hd
    cases hd
    exact rep_int
def rng1D : List PyData → Option (List PyData)
  | [.int n] => if rngOk n then some (rngD 0 n) else none
  | _ => none
def rng2D : List PyData → Option (List PyData)
  | [.int m, .int n] => if rngOk m && rngOk n then some (rngD m n) else none
  | _ => none
theorem ei_rng1 {ta : TA} {f : Rho → Option (List PyData)} (h : EA K ta f) : EI K (iRng1 ta) (fun ρ => (f ρ).bind rng1D) := fun A ρ σ H ds rs e H1 e1 R k => by
  obtain ⟨d, hd, e⟩ := bind_some' e
  unfold rng1D at e
  refine h A ρ σ H d rs hd H1 e1 _ fun vs H2 e2 rv => ?_
  split at e
  · split at e
    · rename_i hr
      cases e
      obtain ⟨b1, b2⟩ := of_decide_eq_true hr
      simp only [RepL, Rep] at rv
      obtain ⟨y, ys, rfl, rfl, rfl⟩ := rv
      refine ⟨_, rfl, b1, b2, k _ H2 e2 ?_⟩
      have := iter_range (K := K) (A := A) (H := H2) (lo := 0) (hi := ‹Int›) (P := Kp A H2)
      simpa using this
    · cases e
  · cases e
theorem ei_rng2 {ta : TA} {f : Rho → Option (List PyData)} (h : EA K ta f) : EI K (iRng2 ta) (fun ρ => (f ρ).bind rng2D) := fun A ρ σ H ds rs e H1 e1 R k => by
  obtain ⟨d, hd, e⟩ := bind_some' e
  unfold rng2D at e
  refine h A ρ σ H d rs hd H1 e1 _ fun vs H2 e2 rv => ?_
  split at e
  · split at e
    · rename_i hr
      cases e
      obtain ⟨hr1, hr2⟩ := Bool.and_eq_true_iff.mp hr
      obtain ⟨b1, b2⟩ := of_decide_eq_true hr1
      obtain ⟨b3, b4⟩ := of_decide_eq_true hr2
      simp only [RepL, Rep] at rv
      obtain ⟨y, ys, rfl, rfl, y', ys', rfl, rfl, rfl⟩ := rv
      exact ⟨_, _, rfl, ⟨b1, b2, b3, b4⟩, k _ H2 e2 iter_range⟩
    · cases e
  · cases e
end
end Sv

/-! enumerate of a tuple, walked. -/
namespace Sv
open PySem L2 Evl
open Sem (wp)
open AutoSeq1 (wpAny_loadPart')

theorem meets_enum_newT (l : Addr) (items : Array Value) (n : Nat) (dct : Option Addr) (sl : Array (Option Value)) :
    Meets (Builtin.«enumerate.__new__» ⟨[.type "enumerate", .ref l], []⟩) (fun _ R s => s.heap.get? l = some { cls := .type "tuple", dict := dct, data := .seq items n, slots := sl } ∧
      R (.ok (.ret (.ref (s.heap.push { cls := .type "tuple_iterator", data := .fields #[.ref l, .int 0 0] }).objs.size)))
        { s with heap := (s.heap.push { cls := .type "tuple_iterator", data := .fields #[.ref l, .int 0 0] }).push { cls := .type "enumerate", data := .fields #[.none, .bool false, .ref s.heap.objs.size, rawInt 0, .none, .none] } }) :=
  .of_wp fun prog w A R s h => by
    obtain ⟨hp, g, d, tk, os⟩ := s; obtain ⟨hl, h⟩ := h
    have hsub := sub_enumerate
    have hL : Heap.IsTuple (Shared.heap ⟨hp, g, d, tk, os⟩) l items := ⟨_, hl, rfl, n, rfl⟩
    wp_walk using wpAny_loadPart' hl
    refine wpAny_stack_any fun st => wpAny_pure ?_
    split
    · rename_i c _ _ _ _ _
      cases (c == Value.type "enumerate")
      · wp_walk using wpAny_loadPart' hl, wpAny_pyIter_tuple hL
        exact ⟨_, rfl, h⟩
      · wp_walk using wpAny_loadPart' hl, wpAny_pyIter_tuple hL
        exact ⟨_, rfl, h⟩
    · wp_walk using wpAny_loadPart' hl, wpAny_pyIter_tuple hL
      exact ⟨_, rfl, h⟩
section
variable {prog : Program} {w : World} {A : Around} {E : Value → Shared → Prop} {s : Shared}
theorem call_enum_tuple {l : Addr} {items : Array Value} {Q : Value → Shared → Prop} (hL : s.heap.IsTuple l items)
    (h : ∀ h', IsEnum h' (s.heap.objs.size + 1) s.heap.objs.size 0 .none → h'.IsTupleIter s.heap.objs.size l 0 → h'.objs.size = s.heap.objs.size + 2 →
      (∀ b o, s.heap.get? b = some o → h'.get? b = some o) → Q (.ref (s.heap.objs.size + 1)) { s with heap := h' }) :
    wpAny (model prog w) A (call (.type "enumerate") [.ref l]) Q E s := by
  obtain ⟨⟨c, dct, dt, sl⟩, hl, hc, n, hd⟩ := hL
  replace hc : c = .type "tuple" := hc
  replace hd : dt = .seq items n := hd
  subst hc hd
  refine callType_new F.called_enumerate (by decide) (F.typeCall_enumerate_1 _) (F.newCall_enumerate_1 _) (fun obj => F.args_object_init_2 obj _) F.entry_enumerate_new
    (meets_enum_newT l items n dct sl) ⟨hl, ?_⟩
  have hz : (s.heap.push { cls := .type "tuple_iterator", data := .fields #[.ref l, .int 0 0] }).objs.size = s.heap.objs.size + 1 := Heap.size_push ..
  show _ ∧ _
  rw [hz]
  have he : IsEnum ((s.heap.push { cls := .type "tuple_iterator", data := .fields #[.ref l, .int 0 0] }).push
      { cls := .type "enumerate", data := .fields #[.none, .bool false, .ref s.heap.objs.size, rawInt 0, .none, .none] }) (s.heap.objs.size + 1) s.heap.objs.size 0 .none := by
    have := Heap.get?_push_size (s.heap.push { cls := .type "tuple_iterator", data := .fields #[.ref l, .int 0 0] })
      (o := { cls := .type "enumerate", data := .fields #[.none, .bool false, .ref s.heap.objs.size, rawInt 0, .none, .none] }) rfl
    rw [hz] at this; exact this
  refine ⟨⟨_, he, rfl⟩, h _ he ⟨_, Heap.get?_push_of_some _ (Heap.get?_push_size _ rfl), rfl, rfl⟩ (by rw [Heap.size_push, hz]) fun b o x => Heap.get?_push_of_some _ (Heap.get?_push_of_some _ x)⟩
end
/-- the tuple at a, each item in a new pair -/
def Iet (K : Fg) (a : Addr) : It :=
  ⟨fun i H => ∃ (xs : List V) (x : V), SqT K H a xs ∧ xs[i]? = some x, fun i H v H' => ∃ T x, v = .ref T ∧ H T = none ∧ H' = upd H T (.tup [.int (i : Nat), x]) ∧ ∀ xs, SqT K H a xs → xs[i]? = some x, fun i H => ∃ xs : List V, SqT K H a xs ∧ xs.length = i⟩
theorem turn_enumT {P : Program} {w : World} {K : Fg} {elts : List Expr} {kk : Nat} {tpos : Pos} (a e it : Addr) (hai : a ≠ it) (hae : a ≠ e) :
    Turn P w K (.Tuple elts kk tpos) (Iet K a) [e, it] e (fun i h => (∃ old, IsEnum h e it ((i : Nat) : Int) old) ∧ h.IsTupleIter it a i ∧ e ≠ it) where
  mem := by simp
  obj := fun i h st b hb => by
    obtain ⟨⟨old, he⟩, ⟨o, ho, hc, hd⟩, _⟩ := st
    have e' : b = e ∨ b = it := by simpa using hb
    rcases e' with z | z
    · rw [z]; exact ⟨_, he, fun v q => nomatch q⟩
    · rw [z]; exact ⟨o, ho, fun v q => by rw [hd] at q; cases q⟩
  keep := fun i h h' st k => let ⟨⟨old, he⟩, hi, hne⟩ := st; ⟨⟨old, k e (by simp) _ he⟩, hi.at fun o q => k it (by simp) o q, hne⟩
  item := by
    intro X hP hw hK hc i pins s σ H E I hf st hg
    subst hP hw hK
    obtain ⟨⟨old, he⟩, hit, hne⟩ := st
    obtain ⟨xs, x, hq, hx⟩ := hg
    obtain ⟨its, rv, p, hz⟩ := I.tuple hq
    obtain ⟨u, hu, ru⟩ := rv.get hx
    have hel : e < s.heap.objs.size := Heap.lt_size he
    have hil : it < s.heap.objs.size := by obtain ⟨_, q, _⟩ := hit; exact Heap.lt_size q
    have hil' : i < its.toArray.size := by
      have := (List.getElem?_eq_some_iff.mp hu).1
      simpa using this
    refine wpAny_pyNext_enum_itemD (Draws.tuple (A := X.A.in1) (I.ok.hd hc) it a hai its.toArray) he ⟨hit, p⟩ hil' hne (by simp [hne, Ne.symm hae]) fun x' h' tk hx' ho hst' hT hsz hk => ?_
    have exu : x' = u := by
      have : its.toArray[i]? = some u := by simpa using hu
      rw [this] at hx'
      exact (Option.some.inj hx').symm
    subst exu
    refine ⟨_, rfl, wpAny_letOwnedTupleGo_enum (s := { s with heap := h', toks := tk + 1 }) ho fun h'' he' sb => ?_⟩
    have hT2 : h''.get? s.heap.objs.size = some { cls := .type "tuple", data := .seq #[.int i tk, x'] } := (sb.2 _ (Nat.ne_of_gt hel)).trans hT
    have new : ObjOk X.prog X.w (upd H s.heap.objs.size (.tup [.int (i : Nat), x])) h'' s.heap.objs.size (.tup [.int (i : Nat), x]) :=
      ⟨by show 2 ≤ sizeLine; decide, [.int i tk, x'], .cons ⟨_, rfl⟩ (.cons ru .nil), ⟨_, hT2, rfl, _, rfl⟩⟩
    have I1 : Inv X pins σ (upd H s.heap.objs.size (.tup [.int (i : Nat), x])) { s with heap := h'', toks := tk + 1 } :=
      I.turnedNew (ch := [e, it]) (fun b ob hb q => (sb.2 b (fun z => hb (by simp [z]))).trans (hk b ob (fun z => hb (by simp [z])) (fun z => hb (by simp [z])) q)) hf (Nat.le_refl _) new
    refine ⟨.ref s.heap.objs.size, _, I1, rfl, ⟨_, x, rfl, I.hok.fresh (Nat.le_refl _), rfl, fun ys hy => by rw [I.tuple_inj hy hq]; exact hx⟩, ⟨⟨x', ?_⟩, hst'.1.at fun o q => (sb.2 it (Ne.symm hne)).trans q, hne⟩, fun b hb => ?_⟩
    · have e1 : ((i + 1 : Nat) : Int) = (i : Int) + 1 := by omega
      rw [e1]; exact he'
    · have hb' : b < s.heap.objs.size := by
        have e' : b = e ∨ b = it := by simpa using hb
        rcases e' with z | z
        · rw [z]; exact hel
        · rw [z]; exact hil
      rw [upd_ne (Nat.ne_of_lt hb')]
      exact (hf b hb).1
  done := by
    intro X hP hw hK hc i pins s σ H E I hf st hg
    subst hP hw hK
    obtain ⟨⟨old, he⟩, hit, hne⟩ := st
    obtain ⟨xs, hq, hx⟩ := hg
    obtain ⟨its, rv, p, hz⟩ := I.tuple hq
    obtain ⟨f0, f1, f2, f3, f4, f5⟩ := hf it (by simp)
    have hl := rv.length
    have hs : its.toArray.size = i := by rw [List.size_toArray, ← hl, hx]
    exact wpAny_pyNext_enum_endD (Draws.tuple (A := X.A.in1) (I.ok.hd hc) it a hai its.toArray) he (by rw [hs]; exact ⟨hit, p⟩) fun h' eb => ⟨rfl, I.turned (t' := s.toks) (fun b o hb q => eb b o hb q) f0 f1 f3 f4 f5⟩
  self := fun A i s Q E st h => let ⟨⟨_, he⟩, _⟩ := st; wpAny_pyIter_enum he h
/-- enumerate of a list or tuple -/
def iEnumA (K : Fg) (ta : TA) : TI := fun σ H R => ta σ H fun vs H1 => ∃ a xs, vs = [.ref a] ∧ ((SqL K H1 a xs ∧ R (Ite K a) H1) ∨ (SqT K H1 a xs ∧ R (Iet K a) H1))
theorem pi_enumA {X : Cx} {e : Expr} {ta : TA} {p pos tpos : Pos} {elts : List Expr} {kk : Nat} (hg : Gl X "enumerate") (hm : X.mg "enumerate" = none) (ha : PA X [e] ta) (hs : starEach [e] X.env = [(false, eval e X.env)] := by rfl) :
    PI X (.Tuple elts kk tpos) (.Call (.Name "enumerate" p) [e] [] pos) (iEnumA X.K ta) := by
  refine ⟨fun pins s σ H R I h => ?_⟩
  refine PyProof.Rows.Call_ (ld_blt I hg hm PyProof.Rows.boot_enumerate (PyProof.Rows.callWith_type1 (thn (ha.run pos pins s σ H _ I h) fun us s1 ⟨vs, H1, I1, r1, q1⟩ => ?_) hs rfl))
  obtain ⟨a, xs, ex, q⟩ := q1
  subst ex
  cases r1 with
  | cons r rr =>
    cases rr
    cases r
    rcases q with ⟨hq, q⟩ | ⟨hq, q⟩
    · obtain ⟨its, rv, p', hz⟩ := I1.list hq
      refine call_enumerate_list p'.isList fun h' he hit hsz hk => wpAny_pyIter_enum he ?_
      have I2 : Inv X pins σ H1 { s1 with heap := h' } := I1.kept (t' := s1.toks) hk
      refine ⟨s1.heap.objs.size + 1, [s1.heap.objs.size + 1, s1.heap.objs.size], _, _, H1, rfl, I2, turn_enum a (s1.heap.objs.size + 1) s1.heap.objs.size, ⟨⟨.none, he⟩, hit, Nat.succ_ne_self _⟩, fun b hb => ?_, q⟩
      have e' : b = s1.heap.objs.size + 1 ∨ b = s1.heap.objs.size := by simpa using hb
      have hle : s1.heap.objs.size ≤ b := by
        rcases e' with z | z
        · rw [z]; exact Nat.le_add_right _ _
        · rw [z]; exact Nat.le_refl _
      exact I1.fpOk hle (I1.hok.fresh hle)
    · obtain ⟨its, rv, p', hz⟩ := I1.tuple hq
      have hal : a < s1.heap.objs.size := p'.lt
      refine call_enum_tuple (show s1.heap.IsTuple a its.toArray from p') fun h' he hit hsz hk => wpAny_pyIter_enum he ?_
      have I2 : Inv X pins σ H1 { s1 with heap := h' } := I1.kept (t' := s1.toks) hk
      refine ⟨s1.heap.objs.size + 1, [s1.heap.objs.size + 1, s1.heap.objs.size], _, _, H1, rfl, I2, turn_enumT a (s1.heap.objs.size + 1) s1.heap.objs.size (Nat.ne_of_lt hal) (Nat.ne_of_lt (Nat.lt_succ_of_lt hal)), ⟨⟨.none, he⟩, hit, Nat.succ_ne_self _⟩, fun b hb => ?_, q⟩
      have e' : b = s1.heap.objs.size + 1 ∨ b = s1.heap.objs.size := by simpa using hb
      have hle : s1.heap.objs.size ≤ b := by
        rcases e' with z | z
        · rw [z]; exact Nat.le_add_right _ _
        · rw [z]; exact Nat.le_refl _
      exact I1.fpOk hle (I1.hok.fresh hle)
section
variable {K : Fg}
def enumFrom (n : Nat) : List PyData → List PyData
  | [] => []
  | d :: ds => .tuple [.int (n : Int), d] :: enumFrom (n + 1) ds
theorem enumFrom_length : ∀ (ds : List PyData) (n : Nat), (enumFrom n ds).length = ds.length
  | [], _ => rfl
  | _ :: ds, n => by simp [enumFrom, enumFrom_length ds]
theorem enumFrom_get : ∀ (ds : List PyData) (n i : Nat) (e : PyData), (enumFrom n ds)[i]? = some e → ∃ d, ds[i]? = some d ∧ e = .tuple [.int ((n + i : Nat) : Int), d]
  | [], _, i, e, h => by simp [enumFrom] at h
  | d :: ds, n, 0, e, h => by
    simp [enumFrom] at h
    exact ⟨d, rfl, h.symm⟩
  | d :: ds, n, i + 1, e, h => by
    obtain ⟨d', h1, h2⟩ := enumFrom_get ds (n + 1) i e (by simpa [enumFrom] using h)
    refine ⟨d', by simpa using h1, ?_⟩
    rw [h2]
    congr 3
    omega
theorem yield_pair {A B : Av} {H Ha Hc : Hp} {ds : List PyData} {xs : List V} {i T : Nat} {x : V} {d e : PyData} (ok : AvOk A H) (k : Kp A H Ha) (r : RepL K H A ds xs) (hb : ∀ a, B a → A a ∨ H a = none) (hn : Ha T = none) (hx : xs[i]? = some x) (hd : ds[i]? = some d)
    (hc : Hc = upd Ha T (.tup [.int (i : Nat), x])) (he : e = .tuple [.int ((i : Nat) : Int), d]) : Ex Ha Hc ∧ Rep K Hc B e (.ref T) := by
  subst hc he
  refine ⟨Ex.new hn, ?_⟩
  obtain ⟨v, hv, rv⟩ := r.get hd
  rw [hx] at hv; cases hv
  simp only [Rep]
  refine ⟨T, _, rfl, SqT.of upd_same, RepL.cons rep_int (RepL.one (Rep.keep2 ok ?_ hb _ _ rv))⟩
  intro b o q n
  have := k b o q n
  rw [upd_ne (ne_of_none this hn)]
  exact this
def enumD (d : PyData) : Option (List PyData) := (itemsOf d).map (enumFrom 0)
theorem ei_enum {ta : TE} {f : Rho → Option PyData} (h : EF K ta f) : EI K (iEnumA K (tCons ta tNil)) (fun ρ => (f ρ).bind enumD) := fun A ρ σ H es rs e H1 e1 R k => by
  obtain ⟨d, hd, e⟩ := bind_some' e
  obtain ⟨ds, hi, rfl⟩ := map_some' e
  refine h A ρ σ H d rs hd H1 e1 _ fun v H2 e2 rv => ?_
  have ok := (rs.av.mono e1).mono e2
  rcases items_or hi with rfl | rfl
  · simp only [Rep] at rv
    obtain ⟨a, xs, rfl, na, h1, r1⟩ := rv
    refine ⟨a, xs, rfl, .inl ⟨.inl h1, k _ H2 e2 ⟨fun i Ha hl kp => ?_, fun Ha kp => ?_, fun B i x Ha Hc e hb he kp y => ?_⟩⟩⟩
    · rw [enumFrom_length, ← r1.length] at hl
      exact walk_enum.goes i Ha hl (.inl (Rd.keepN kp na h1))
    · rw [enumFrom_length, ← r1.length]
      exact walk_enum.stops Ha (.inl (Rd.keepN kp na h1))
    · obtain ⟨d', hd', ee⟩ := enumFrom_get _ _ _ _ he
      rw [Nat.zero_add] at ee
      have hl : i < xs.length := by rw [r1.length]; exact (List.getElem?_eq_some_iff.mp hd').1
      obtain ⟨T, x1, y1, rfl, hT, hc, hx1, hy1⟩ := (walk_enum (K := K) (xs := xs)).yields i Ha x Hc hl (.inl (Rd.keepN kp na h1)) y
      cases hx1
      exact yield_pair ok kp r1 hb hT hy1 hd' hc ee
  · simp only [Rep] at rv
    obtain ⟨a, xs, rfl, h1, r1⟩ := rv
    refine ⟨a, xs, rfl, .inr ⟨h1, k _ H2 e2 ⟨fun i Ha hl kp => ?_, fun Ha kp => ?_, fun B i x Ha Hc e hb he kp y => ?_⟩⟩⟩
    · rw [enumFrom_length, ← r1.length] at hl
      exact ⟨xs, xs[i], SqT.keep ok kp h1, by simp [hl]⟩
    · rw [enumFrom_length, ← r1.length]
      exact ⟨xs, SqT.keep ok kp h1, rfl⟩
    · obtain ⟨d', hd', ee⟩ := enumFrom_get _ _ _ _ he
      rw [Nat.zero_add] at ee
      obtain ⟨T, x1, rfl, hT, hc, hx1⟩ := y
      exact yield_pair ok kp r1 hb hT (hx1 xs (SqT.keep ok kp h1)) hd' hc ee
end
end Sv

/-! Defs called by their promises; built-in names. -/
namespace Sv
open PySem L2 Evl

/-- the built-in names that no module's name hides -/
structure BI (mg : Str → Option Value) : Prop where
  all : mg "all" = none
  any : mg "any" = none
  bool : mg "bool" = none
  dict : mg "dict" = none
  enumerate : mg "enumerate" = none
  int : mg "int" = none
  isinstance : mg "isinstance" = none
  len : mg "len" = none
  list : mg "list" = none
  max : mg "max" = none
  min : mg "min" = none
  range : mg "range" = none
  repr : mg "repr" = none
  set : mg "set" = none
  sorted : mg "sorted" = none
  str : mg "str" = none
  sum : mg "sum" = none
  tuple : mg "tuple" = none
  zip : mg "zip" = none

structure CalS (P : Program) (w : World) (K : Fg) (mg : Str → Option Value) (base : Heap) (k : Nat) (x : Str) (ps : List Str) (sp : Sp) : Prop where
  ex : ∃ (f : Addr) (fd : FuncData), FnOk P w K mg base CX0 k f fd ps sp ∧ mg x = some (.ref f) ∧ PySem.W.keepIn K (.ref f) = true ∧ Binds K fd ps []
abbrev Cal (P : Program) (w : World) (K : Fg) (mg : Str → Option Value) (base : Heap) (k : Nat) (x : Str) (ps : List Str) (m : List PyData → Option PyData) : Prop := CalS P w K mg base k x ps (spD K m)
theorem CalS.mono {P : Program} {w : World} {K : Fg} {mg : Str → Option Value} {base : Heap} {j k : Nat} {x : Str} {ps : List Str} {sp : Sp} (c : CalS P w K mg base j x ps sp) (h : j ≤ k) : CalS P w K mg base k x ps sp := by
  obtain ⟨f, fd, F, r⟩ := c.ex
  exact ⟨f, fd, F.mono h, r⟩
theorem pe_cal {X : Cx} {k : Nat} {x : Str} {ps : List Str} {sp : Sp} {p pos : Pos} {e : Expr} {es : List Expr} {t : TA} (c : CalS X.prog X.w X.K X.mg X.base k x ps sp) (hr : Room k X.A) (hg : Gl X x) (ha : PA X (e :: es) t)
    (hd : (x == ("__debug__" : Str)) = false := by decide)
    (hs : starEach (e :: es) X.env = (false, eval e X.env) :: starEach es X.env := by rfl) (hpl : ((backTo pos (starEach es X.env)).any fun x => x.1) = false := by rfl) :
    PE X (.Call (.Name x p) (e :: es) [] pos) (tCall sp [] E0 t) := by
  obtain ⟨f, fd, F, hm, hk, hb⟩ := c.ex
  exact pe_call F hr hg hm hk hb .nil pass0 ha hd hs hpl
/-- a def of the text -/
theorem cal_of {P : Program} {w : World} {K : Fg} {mg : Str → Option Value} {base : Heap} {k : Nat} {x : Str} {st : Stmt} {f : Addr} {fd : FuncData} {ps : List Str} {sp : Sp} (F : Fun K x x st f fd) (hm : mg x = some (.ref f)) (b : Binds K fd ps []) (G : FnOk P w K mg base CX0 k f fd ps sp) :
    CalS P w K mg base k x ps sp := ⟨f, fd, G, hm, F.kp, b⟩
theorem spD_len {K : Fg} {m : List PyData → Option PyData} {n : Nat} (h : ∀ ds d, m ds = some d → ds.length = n) : ∀ vs H Q E, spD K m vs H Q E → vs.length = n := fun vs H Q E ⟨O, ds, d, _, r, e, _⟩ => by rw [r.length]; exact h ds d e
/-- a body's residue, where the number of arguments is right -/
def runD (n k : Nat) (fb : Rho → Option Res) (ds : List PyData) : Option PyData := if ds.length = k then retD (fb (startR n ds)) else none
theorem runD_len {n k : Nat} {fb : Rho → Option Res} : ∀ ds d, runD n k fb ds = some d → ds.length = k := fun ds d h => by
  unfold runD at h
  split at h
  · assumption
  · cases h
theorem runD_ret {n k : Nat} {fb : Rho → Option Res} : ∀ ds d, runD n k fb ds = some d → retD (fb (startR n ds)) = some d := fun ds d h => by
  unfold runD at h
  split at h
  · exact h
  · cases h

/-! ### the script's cells -/
def cellN (ns : List Int) (k : Int) : Int := ns.getD k.toNat 0
def spCell (K : Fg) : Sp := fun vs H Q _ => ∃ a ns k, vs = [.ref a, .int k] ∧ SqL K H a (ns.map V.int) ∧ 0 ≤ k ∧ ∀ H', Ex H H' → Q (.int (cellN ns k)) H'
def mixD (ns : List Int) (k : Int) : Int := (cellN ns k + 7919 * k + 1) * 48271 % 2147483647
def mixN (ns : List Int) (k : Int) : Int := (mixD ns k * mixD ns k + 7 * mixD ns k + k) % 2147483629
def spMix (K : Fg) : Sp := fun vs H Q _ => ∃ a ns k, vs = [.ref a, .int k] ∧ SqL K H a (ns.map V.int) ∧ 0 ≤ k ∧ ∀ H', Ex H H' → Q (.int (mixN ns k)) H'
theorem mixN_lo (ns : List Int) (k : Int) : 0 ≤ mixN ns k := Int.emod_nonneg _ (by decide)
theorem mixN_hi (ns : List Int) (k : Int) : mixN ns k < 2147483629 := Int.emod_lt_of_pos _ (by decide)
def intsD : List PyData → Option (List Int)
  | [] => some []
  | .int i :: r => (intsD r).map (i :: ·)
  | _ :: _ => none
def scrOf (i : Nat) (ρ : Rho) : Option (List Int) := match ρ[i]? with
  | some (.scr ns) => some ns
  | some (.val (.list ds)) => intsD ds
  | _ => none
theorem intsD_rep {K : Fg} {H : Hp} {A : Av} : ∀ {ds : List PyData} {ns : List Int} {xs : List V}, intsD ds = some ns → RepL K H A ds xs → xs = ns.map V.int
  | [], ns, xs, e, r => by
    cases e
    simp only [RepL] at r
    exact r
  | .int i :: ds, ns, xs, e, r => by
    obtain ⟨ms, e1, rfl⟩ := map_some' (show (intsD ds).map (i :: ·) = some ns from e)
    simp only [RepL, Rep] at r
    obtain ⟨y, ys, rfl, rfl, r⟩ := r
    rw [intsD_rep e1 r]; rfl
  | .none :: ds, ns, xs, e, r => by cases e
  | .bool _ :: ds, ns, xs, e, r => by cases e
  | .str _ :: ds, ns, xs, e, r => by cases e
  | .list _ :: ds, ns, xs, e, r => by cases e
  | .tuple _ :: ds, ns, xs, e, r => by cases e
  | .dict _ :: ds, ns, xs, e, r => by cases e
theorem scr_at {K : Fg} {A : Av} {ρ : Rho} {σ : St} {H : Hp} {i : Nat} {ns : List Int} (rs : RS K A ρ σ H) (h : scrOf i ρ = some ns) : ∃ a, σ[i]? = some (some (.ref a)) ∧ SqL K H a (ns.map V.int) := by
  unfold scrOf at h
  split at h
  · rename_i q
    cases h
    obtain ⟨a, h1, h2⟩ := rs.at' i _ q
    exact ⟨a, h1, h2.sq⟩
  · rename_i ds q
    obtain ⟨v, h1, h2⟩ := rs.at' i _ q
    simp only [Rep] at h2
    obtain ⟨a, xs, rfl, _, h3, h4⟩ := h2
    exact ⟨a, h1, .inl (by rw [← intsD_rep h h4]; exact h3)⟩
  · cases h
def mixR (ns : List Int) (k : Int) : Option PyData := if 0 ≤ k then some (.int (mixN ns k)) else none
theorem ef_mix {K : Fg} {E : XK} {i : Nat} {te : TE} {fe : Rho → Option PyData} (h : EF K te fe) : EF K (tCall (spMix K) [] E (tCons (tVar i) (tCons te tNil))) (fun ρ => bnd2 (scrOf i ρ) ((fe ρ).bind asI) mixR) := fun A ρ σ H d rs e H1 e1 Q q => by
  obtain ⟨ns, k, hs, hk, e⟩ := bnd2_some e
  obtain ⟨x, hx, hk⟩ := bind_some' hk
  cases asI_some hk
  unfold mixR at e
  split at e
  · rename_i h0
    cases e
    obtain ⟨a, ha, hq⟩ := scr_at rs hs
    refine ⟨_, ha, h A ρ σ H _ rs hx H1 e1 _ fun v H2 e2 rv => ?_⟩
    simp only [Rep] at rv
    subst rv
    exact ⟨a, ns, k, rfl, ex_l (e1.trans e2) hq, h0, fun H' e' => q _ H' (e2.trans e') rep_int⟩
  · cases e
end Sv
namespace Sv
open PySem L2 Evl
theorem bt_len : bootBuiltins "len" = some (.builtin "len") := by decide +kernel
theorem bt_isinstance : bootBuiltins "isinstance" = some (.builtin "isinstance") := by decide +kernel
theorem bt_tuple : bootBuiltins "tuple" = some (.type "tuple") := by decide +kernel
theorem bt_list : bootBuiltins "list" = some (.type "list") := by decide +kernel
theorem bt_str : bootBuiltins "str" = some (.type "str") := by decide +kernel
theorem bt_int : bootBuiltins "int" = some (.type "int") := by decide +kernel
theorem bt_bool : bootBuiltins "bool" = some (.type "bool") := by decide +kernel
theorem bt_dict : bootBuiltins "dict" = some (.type "dict") := by decide +kernel
theorem bt_all : bootBuiltins "all" = some (.builtin "all") := by decide +kernel
theorem bt_any : bootBuiltins "any" = some (.builtin "any") := by decide +kernel
theorem bt_sorted : bootBuiltins "sorted" = some (.builtin "sorted") := by decide +kernel
theorem bt_sum : bootBuiltins "sum" = some (.builtin "sum") := by decide +kernel
theorem bt_max : bootBuiltins "max" = some (.builtin "max") := by decide +kernel
theorem bt_min : bootBuiltins "min" = some (.builtin "min") := by decide +kernel
theorem bt_repr : bootBuiltins "repr" = some (.builtin "repr") := by decide +kernel
theorem bt_set : bootBuiltins "set" = some (.type "set") := by decide +kernel
theorem un65 {A : Around} {k : Nat} (hr : Room k A) : A.units + 65 < cLine := by have := hr.un; omega
def notV (o : Option PyData) : Option PyData := (o.bind asB).map fun b => .bool (!b)
def partI (o : Option PyData) : Option (Option Int) := (o.bind asI).map some
def negD : PyData → Option PyData
  | .int i => some (.int (-i))
  | _ => none
theorem e1_neg {K : Fg} : E1 K (rU fun i => .int (-i)) negD := fun A H d x z ok rx h Q q => by
  unfold negD at h
  split at h
  · cases h
    cases rx.int
    exact ⟨_, rfl, q _ H (Ex.refl _) rep_int⟩
  · cases h
/-- a, b = x, y -/
def parR (i j : Nat) (ρ : Rho) (o : Option (List PyData)) : Option Res := o.bind fun ds => match ds with
  | [a, b] => some (.nx ((ρ.set i (.val a)).set j (.val b)))
  | _ => none
theorem es_par {K : Fg} {i j : Nat} {ta : TA} {fa : Rho → Option (List PyData)} (h : EA K ta fa) : ES K (tPar i j ta) (fun ρ => parR i j ρ (fa ρ)) := fun Hb O ow ρ σ H r D sr e fin => by
  obtain ⟨ds, hd, e⟩ := bind_some' e
  split at e
  · cases e
    refine h _ ρ σ H _ sr.rs hd H (Ex.refl _) _ fun vs H2 e2 rv => ?_
    simp only [RepL] at rv
    obtain ⟨x, xs, rfl, r1, y, ys, rfl, r2, rfl⟩ := rv
    refine ⟨x, y, rfl, fin ow _ H2 ?_⟩
    exact ((sr.mono e2).setV r1).setV (Rep.anti Avd.set _ _ r2)
  · cases e
/-- order of texts, too -/
def sLe (i j : Str) : Bool := decide (i.cps.toList ≤ j.cps.toList)
def op_mulA {X : Cx} : OpR X (binaryOp .Mult) (rI CMul fun i j => .int (i * j)) := op_mul
theorem e2_mulA {K : Fg} : E2 K (rI CMul fun i j => .int (i * j)) mulD := e2_mul
abbrev mulA := mulD
theorem op_leA {X : Cx} : OpR X (compareOp .LtE) rLe0 := op_le0
end Sv
namespace Sv
open PySem L2 Evl
/-! the rules by the written part's own name -/
section
variable {X : Cx} (K : Fg) (h : X.K = K)
include h
theorem op_addK : OpR X (binaryOp .Add) (rAddD K) := h ▸ op_addd
theorem op_eqK (hu : X.A.units + 64 < cLine) : OpR X (compareOp .Eq) (rEqA K) := h ▸ op_eqA hu
theorem op_neK (hu : X.A.units + 64 < cLine) : OpR X (compareOp .NotEq) (rNeA K) := h ▸ op_neA hu
theorem op_inK (hu : X.A.units + 65 < cLine) : OpR X (compareOp .In) (rInAny K false) := h ▸ op_inAny hu
theorem op_notInK (hu : X.A.units + 65 < cLine) : OpR X (compareOp .NotIn) (rInAny K true) := h ▸ op_notInAny hu
theorem ix_K : IxR X (rIxA K) := h ▸ ix_all
theorem sl_K : SlR X (rSlAll K) := h ▸ sl_all
theorem call_lenK : CallR X (.builtin "len") (rLenA K) := h ▸ call_lenA
theorem call_tupleK : CallR X (.type "tuple") (rTupleA K) := h ▸ call_tupleA
theorem call_listK : CallR X (.type "list") (rListS K) := h ▸ call_listA
theorem call_isK : CallR X (.builtin "isinstance") (rIsi K) := h ▸ call_isi
theorem call_allK (hc : X.calm = true) : CallR X (.builtin "all") (rAll K) := h ▸ cr_all hc
theorem call_anyK (hc : X.calm = true) : CallR X (.builtin "any") (rAny K) := h ▸ cr_any hc
theorem pi_seqK {tg l : Expr} {tl : TE} (hl : PE X l tl) : PI X tg l (iSeq K tl) := h ▸ pi_seq hl
theorem pi_enumK {e : Expr} {ta : TA} {p pos tpos : Pos} {elts : List Expr} {kk : Nat} (hg : Gl X "enumerate") (hm : X.mg "enumerate" = none) (ha : PA X [e] ta) (hs : starEach [e] X.env = [(false, eval e X.env)] := by rfl) :
    PI X (.Tuple elts kk tpos) (.Call (.Name "enumerate" p) [e] [] pos) (iEnumA K ta) := h ▸ pi_enumA hg hm ha hs
end
end Sv
namespace Sv
open PySem L2 Evl
/-- a law's promise -/
def spLaw (K : Fg) : Sp := fun vs H Q _ => ∃ a ns, vs = [.ref a] ∧ Scr K H a ns ∧ ns.length ≤ 63 ∧ ∀ H', Q (.bl true) H'
def scrR (n : Nat) (ns : List Int) : Rho := .scr ns :: List.replicate (n - 1) .no
theorem law_ok {K : Fg} {N : List Str} {t : TS} {fb : Rho → Option Res} {vs : List V} {H : Hp} {Q : VK} {E : XK} (h : ES K t fb) (hf : ∀ ns : List Int, ns.length ≤ 63 → retD (fb (scrR N.length ns)) = some (.bool true)) (sp : spLaw K vs H Q E) :
    t { nx := fun _ H' => Q .non H', rt := Q } (L2.start N vs) H := by
  obtain ⟨a, ns, rfl, hs, hl, q⟩ := sp
  have e' := hf ns hl
  have ob : AvOk (fun _ => False) H := fun _ z => z.elim
  have st : SR K H (fun _ => False) (fun _ => 0) (scrR N.length ns) (L2.start N [.ref a]) H := by
    refine start_ok (ss := [.scr ns]) (vs := [V.ref a]) ob rfl (fun s hs d e => ?_) fun i s v h1 h2 => ?_
    · rw [List.mem_singleton.mp hs] at e; cases e
    · cases i with
      | zero => cases h1; cases h2; exact ⟨a, rfl, hs⟩
      | succ i => simp at h1
  cases hr : fb (scrR N.length ns) with
  | none => rw [hr] at e'; cases e'
  | some r1 =>
    rw [hr] at e'
    refine h H _ _ _ _ H r1 _ st hr ?_
    cases r1 with
    | ret d' =>
      cases e'
      intro v H' x rv
      simp only [Rep] at rv
      subst rv
      exact q H'
    | nx ρ => cases e'
    | brk ρ => cases e'
    | ct ρ => cases e'
theorem only_scr {K : Fg} {H : Hp} {a : Addr} {ns : List Int} (ho : Only H) (hs : SqL K H a (ns.map V.int)) : Scr K H a ns := by
  rcases hs with (h | h) | h
  · rcases ho a with z | ⟨o, xs, z⟩
    · rw [z] at h; cases h
    · rw [z] at h; cases h
  · exact .inl h
  · exact .inr h
/-- nothing promised -/
theorem fn_no {P : Program} {w : World} {K : Fg} {mg : Str → Option Value} {base : Heap} {k : Nat} {f : Addr} {fd : FuncData} {ps : List Str} : FnOk P w K mg base CX0 k f fd ps (spD K fun _ => none) :=
  ⟨fun _ _ _ _ ⟨_, _, _, _, _, e, _⟩ => (nomatch e), fun _ _ _ _ _ _ _ _ _ _ _ _ _ ⟨_, _, _, _, _, e, _⟩ => (nomatch e)⟩
/-- a def that calls itself, so deep -/
def itm (F : (List PyData → Option PyData) → List PyData → Option PyData) : Nat → List PyData → Option PyData
  | 0 => fun _ => none
  | n + 1 => F (itm F n)
theorem rec_ok {P : Program} {w : World} {K : Fg} {mg : Str → Option Value} {base : Heap} {k₀ : Nat} {x : Str} {st : Stmt} {f : Addr} {fd : FuncData} {ps : List Str} {Fm : (List PyData → Option PyData) → List PyData → Option PyData} (F : Fun K x x st f fd) (hm : mg x = some (.ref f)) (b : Binds K fd ps [])
    (step : ∀ j m, k₀ ≤ j → Cal P w K mg base j x ps m → FnOk P w K mg base CX0 (j + 1) f fd ps (spD K (Fm m))) : ∀ n, Cal P w K mg base (k₀ + n) x ps (itm Fm n)
  | 0 => cal_of F hm b fn_no
  | n + 1 => cal_of F hm b (step (k₀ + n) _ (Nat.le_add_right _ _) (rec_ok F hm b step n))
end Sv
namespace Sv
open PySem L2 Evl
/-- a def as the top has left it -/
structure Dn (K : Fg) (x : Str) (st : Stmt) : Prop where
  ex : ∃ f fd, Fun K x x st f fd ∧ PySem.W.nsIn K mainGlobals x = some (some (.ref f))
theorem dn_mk {K : Fg} {x : Str} {st : Stmt} {f : Addr} {oc : Value} {od an : Option Addr} {osl : Array (Option Value)} {kV doc pm cdv ct : Value} (a : PySem.W.nsIn K mainGlobals x = some (some (.ref f)))
    (l : K.lookup f = some ⟨oc, od, .func (PySem.W.fnOf x x (defArgs st) (defBody st) (defScope st) .none kV doc pm an cdv ct), osl⟩) (c : PySem.W.codeIn K cdv x = true) (k : PySem.W.keepIn K (.ref f) = true) : Dn K x st :=
  ⟨f, _, fun_mk l c k, a⟩
/-- from a def's own walk to its calls -/
theorem Dn.cal {P : Program} {w : World} {K : Fg} {mg : Str → Option Value} {base h : Heap} {k : Nat} {x : Str} {st : Stmt} {ps : List Str} {sp : Sp} (d : Dn K x st) (X : K.In h) (G : h.Ns mainGlobals mg)
    (hb : ∀ (kV doc pm : Value) (an : Option Addr) (cdv ct : Value) (us : List Value), us.length = ps.length → bindArgs (PySem.W.fnOf x x (defArgs st) (defBody st) (defScope st) .none kV doc pm an cdv ct) ⟨us, []⟩ = pure (ps.zip us))
    (G' : ∀ f fd, Fun K x x st f fd → FnOk P w K mg base CX0 k f fd ps sp) : CalS P w K mg base k x ps sp := by
  obtain ⟨f, fd, F, a⟩ := d.ex
  exact cal_of F (PySem.W.mg_of X G a) (F.binds hb) (G' f fd F)
theorem Dn.recs {P : Program} {w : World} {K : Fg} {mg : Str → Option Value} {base h : Heap} {k₀ : Nat} {x : Str} {st : Stmt} {ps : List Str} {Fm : (List PyData → Option PyData) → List PyData → Option PyData} (d : Dn K x st) (X : K.In h) (G : h.Ns mainGlobals mg)
    (hb : ∀ (kV doc pm : Value) (an : Option Addr) (cdv ct : Value) (us : List Value), us.length = ps.length → bindArgs (PySem.W.fnOf x x (defArgs st) (defBody st) (defScope st) .none kV doc pm an cdv ct) ⟨us, []⟩ = pure (ps.zip us))
    (step : ∀ f fd j m, Fun K x x st f fd → k₀ ≤ j → Cal P w K mg base j x ps m → FnOk P w K mg base CX0 (j + 1) f fd ps (spD K (Fm m))) (n : Nat) : Cal P w K mg base (k₀ + n) x ps (itm Fm n) := by
  obtain ⟨f, fd, F, a⟩ := d.ex
  exact rec_ok F (PySem.W.mg_of X G a) (F.binds hb) (fun j m hj c => step f fd j m F hj c) n
structure BIk (K : Fg) : Prop where
  all : PySem.W.nsIn K mainGlobals "all" = some none
  any : PySem.W.nsIn K mainGlobals "any" = some none
  bool : PySem.W.nsIn K mainGlobals "bool" = some none
  dict : PySem.W.nsIn K mainGlobals "dict" = some none
  enumerate : PySem.W.nsIn K mainGlobals "enumerate" = some none
  int : PySem.W.nsIn K mainGlobals "int" = some none
  isinstance : PySem.W.nsIn K mainGlobals "isinstance" = some none
  len : PySem.W.nsIn K mainGlobals "len" = some none
  list : PySem.W.nsIn K mainGlobals "list" = some none
  max : PySem.W.nsIn K mainGlobals "max" = some none
  min : PySem.W.nsIn K mainGlobals "min" = some none
  range : PySem.W.nsIn K mainGlobals "range" = some none
  repr : PySem.W.nsIn K mainGlobals "repr" = some none
  set : PySem.W.nsIn K mainGlobals "set" = some none
  sorted : PySem.W.nsIn K mainGlobals "sorted" = some none
  str : PySem.W.nsIn K mainGlobals "str" = some none
  sum : PySem.W.nsIn K mainGlobals "sum" = some none
  tuple : PySem.W.nsIn K mainGlobals "tuple" = some none
  zip : PySem.W.nsIn K mainGlobals "zip" = some none
theorem BIk.of {K : Fg} {h : Heap} {mg : Str → Option Value} (b : BIk K) (X : K.In h) (G : h.Ns mainGlobals mg) : BI mg :=
  ⟨PySem.W.mg_none_of X G b.all, PySem.W.mg_none_of X G b.any, PySem.W.mg_none_of X G b.bool, PySem.W.mg_none_of X G b.dict, PySem.W.mg_none_of X G b.enumerate, PySem.W.mg_none_of X G b.int, PySem.W.mg_none_of X G b.isinstance, PySem.W.mg_none_of X G b.len, PySem.W.mg_none_of X G b.list, PySem.W.mg_none_of X G b.max, PySem.W.mg_none_of X G b.min,
    PySem.W.mg_none_of X G b.range, PySem.W.mg_none_of X G b.repr, PySem.W.mg_none_of X G b.set, PySem.W.mg_none_of X G b.sorted, PySem.W.mg_none_of X G b.str, PySem.W.mg_none_of X G b.sum, PySem.W.mg_none_of X G b.tuple, PySem.W.mg_none_of X G b.zip⟩
/-- the law's end -/
theorem walk_law {l : PySem.W.OpenLaw} {q : Program} {loose : List Str} {XP : (Str → Option Value) → Heap → Prop} {YP : World → Heap → Prop} {d : DefRec} {K : Params → Fg} {k : Nat} {st : Stmt} (hn : l.most = some 63) (hdf : d.params.defaults = []) (hr : Room k callerA)
    (hY : ∀ (w : World) (h : Heap), YP w h → (K w.params).In h) (hd : d.name = "law")
    (hb : ∀ (kV doc pm : Value) (an : Option Addr) (cdv ct : Value) (s : Shared) (v : Value), BindsTo s (PySem.W.fnOf "law" "law" (defArgs st) (defBody st) (defScope st) .none kV doc pm an cdv ct) ⟨[v], []⟩ [("script", v)])
    (F : ∀ (w : World) (mg : Str → Option Value) (h : Heap), (K w.params).In h → h.Ns mainGlobals mg → Dn (K w.params) "law" st ∧ ∀ (fa : Addr) (fd : FuncData), Fun (K w.params) "law" "law" st fa fd → ∀ base : Heap, FnOk l.prog w (K w.params) mg base CX0 k fa fd ["script"] (spLaw (K w.params))) :
    PySem.W.WalkO q loose XP YP l.row.toRowW d [] (fun f vs => PySem.call f vs) :=
  L2.walk_of (n := 63) (k := k) (x := "script") (CX := fun _ => CX0) (sp := fun w => spLaw (K w.params)) hn (by decide) hdf hr hY (fun w mg fa h KX G hmg => by
      obtain ⟨dl, F⟩ := F w mg h KX G
      obtain ⟨f, fd, Fn, a⟩ := dl.ex
      rw [hd] at hmg
      have e := hmg.symm.trans (PySem.W.mg_of KX G a)
      cases e
      obtain ⟨oc, od, kV, doc, pm, an, cdv, ct, osl, rfl, lk, hcd⟩ := id Fn.ex
      exact ⟨_, fun s v => hb kV doc pm an cdv ct s v, fun base _ _ => F _ _ Fn base⟩)
    (fun _ _ a ns hl ho hS => ⟨a, ns, rfl, only_scr ho hS, hl, fun _ => rfl⟩) fun _ _ _ _ _ z => z
end Sv

namespace Sv
open PySem L2 Evl
/-! _law_drawn: by [], 3 names -/
def fb__law_drawn : Rho → Option Res := fun ρ =>
  seqR (asgR 2 ρ (bnd2 (bnd2 (bnd2 (bnd2 (gb 0 ρ) (bnd2 (some (.int 104729)) (gb 1 ρ) mulA) addD) (some (.int 17)) addD) (some (.int 69621)) mulA) (some (.int 2147483647)) modD)) fun ρ =>
  retR (bnd2 (bnd2 (bnd2 (bnd2 (gb 2 ρ) (gb 2 ρ) mulA) (bnd2 (some (.int 3)) (gb 2 ρ) mulA) addD) (gb 1 ρ) addD) (some (.int 2147483629)) modD)
/-! _law_test: by ['_law_test', '_law_drawn'], 5 names -/
def fb__law_test (m__law_test : List PyData → Option PyData) (m__law_drawn : List PyData → Option PyData) : Rho → Option Res := fun ρ =>
  seqR (asgR 2 ρ (bnd2 (gb 0 ρ) (some (.int 8)) modD)) fun ρ =>
  seqR (ifR (andB ((bnd2 (gb 1 ρ) (some (.int 1)) gtD).bind asB) ((bnd2 (gb 2 ρ) (some (.int 4)) gtD).bind asB)) (seqR (asgR 3 ρ (((bnd2 (bnd2 (((bnd2 (gv 0 ρ) ((bnd2 (some (.int 1)) (some []) consD)) consD)).bind m__law_drawn) (some (.int 4)) fdivD) ((bnd2 (bnd2 (gb 1 ρ) (some (.int 1)) subD) (some []) consD)) consD)).bind m__law_test)) fun ρ =>
  seqR (asgR 4 ρ (((bnd2 (bnd2 (((bnd2 (gv 0 ρ) ((bnd2 (some (.int 2)) (some []) consD)) consD)).bind m__law_drawn) (some (.int 4)) fdivD) ((bnd2 (bnd2 (gb 1 ρ) (some (.int 1)) subD) (some []) consD)) consD)).bind m__law_test)) fun ρ =>
  retR (bnd2 (((bnd2 (((bnd2 (some (.str "not")) ((bnd2 (gv 3 ρ) (some []) consD)) consD)).bind tupD) ((bnd2 (((bnd2 (some (.str "both")) ((bnd2 (gv 3 ρ) ((bnd2 (gv 4 ρ) (some []) consD)) consD)) consD)).bind tupD) ((bnd2 (((bnd2 (some (.str "either")) ((bnd2 (gv 3 ρ) ((bnd2 (gv 4 ρ) (some []) consD)) consD)) consD)).bind tupD) (some []) consD)) consD)) consD)).bind lstD) (bnd2 (gb 2 ρ) (some (.int 5)) subD) ixD)) (some (.nx ρ))) fun ρ =>
  seqR (ifR ((bnd2 (gb 2 ρ) (some (.int 0)) eqD).bind asB) (retR (((bnd2 (some (.str "from")) ((bnd2 (bnd2 (((bnd2 (some (.str "ann")) ((bnd2 (some (.str "bob")) (some []) consD)) consD)).bind tupD) (bnd2 (bnd2 (gb 0 ρ) (some (.int 8)) fdivD) (some (.int 2)) modD) ixD) (some []) consD)) consD)).bind tupD)) (some (.nx ρ))) fun ρ =>
  seqR (ifR ((bnd2 (gb 2 ρ) (some (.int 1)) eqD).bind asB) (retR (((bnd2 (some (.str "over")) ((bnd2 (bnd2 (((bnd2 (some (.int 10)) ((bnd2 (some (.int 500)) ((bnd2 (some (.int 999)) (some []) consD)) consD)) consD)).bind tupD) (bnd2 (bnd2 (gb 0 ρ) (some (.int 8)) fdivD) (some (.int 3)) modD) ixD) (some []) consD)) consD)).bind tupD)) (some (.nx ρ))) fun ρ =>
  seqR (ifR ((bnd2 (gb 2 ρ) (some (.int 2)) eqD).bind asB) (retR (((bnd2 (some (.str "marked")) ((bnd2 (bnd2 (((bnd2 (some (.str "m")) ((bnd2 (some (.str "red")) (some []) consD)) consD)).bind tupD) (bnd2 (bnd2 (gb 0 ρ) (some (.int 8)) fdivD) (some (.int 2)) modD) ixD) (some []) consD)) consD)).bind tupD)) (some (.nx ρ))) fun ρ =>
  seqR (ifR ((bnd2 (gb 2 ρ) (some (.int 3)) eqD).bind asB) (retR (((bnd2 (some (.str "yes")) (some []) consD)).bind tupD)) (some (.nx ρ))) fun ρ =>
  retR (((bnd2 (some (.str "word")) ((bnd2 (bnd2 (((bnd2 (some (.str "hi")) ((bnd2 (some (.str "now")) (some []) consD)) consD)).bind tupD) (bnd2 (bnd2 (gb 0 ρ) (some (.int 8)) fdivD) (some (.int 2)) modD) ixD) (some []) consD)) consD)).bind tupD)
/-! _law_deed: by [], 4 names -/
def fb__law_deed : Rho → Option Res := fun ρ =>
  seqR (asgR 2 ρ (bnd2 (gb 0 ρ) (some (.int 12)) modD)) fun ρ =>
  seqR (asgR 3 ρ (bnd2 (((bnd2 (some (.str "a")) ((bnd2 (some (.str "in")) ((bnd2 (some (.str "old")) ((bnd2 (some (.str "x")) (some []) consD)) consD)) consD)) consD)).bind tupD) (bnd2 (bnd2 (gb 0 ρ) (some (.int 16)) fdivD) (some (.int 4)) modD) ixD)) fun ρ =>
  seqR (ifR ((bnd2 (gb 2 ρ) (some (.int 0)) eqD).bind asB) (retR (((bnd2 (some (.str "stop")) (some []) consD)).bind tupD)) (some (.nx ρ))) fun ρ =>
  seqR (ifR ((bnd2 (gb 2 ρ) (some (.int 1)) eqD).bind asB) (retR (((bnd2 (some (.str "drop")) (some []) consD)).bind tupD)) (some (.nx ρ))) fun ρ =>
  seqR (ifR ((bnd2 (gb 2 ρ) (some (.int 5)) ltD).bind asB) (retR (((bnd2 (some (.str "call")) ((bnd2 (bnd2 (gb 1 ρ) (bnd2 (bnd2 (gb 0 ρ) (some (.int 16)) fdivD) ((gb 1 ρ).bind lenD) modD) ixD) (some []) consD)) consD)).bind tupD)) (some (.nx ρ))) fun ρ =>
  seqR (ifR ((bnd2 (gb 2 ρ) (some (.int 7)) ltD).bind asB) (retR (((bnd2 (bnd2 (((bnd2 (some (.str "mark")) ((bnd2 (some (.str "unmark")) (some []) consD)) consD)).bind tupD) (bnd2 (bnd2 (gb 0 ρ) (some (.int 64)) fdivD) (some (.int 2)) modD) ixD) ((bnd2 (bnd2 (((bnd2 (some (.str "m")) ((bnd2 (some (.str "red")) (some []) consD)) consD)).bind tupD) (bnd2 (bnd2 (gb 0 ρ) (some (.int 16)) fdivD) (some (.int 2)) modD) ixD) (some []) consD)) consD)).bind tupD)) (some (.nx ρ))) fun ρ =>
  retR (((bnd2 (bnd2 (((bnd2 (some (.str "lay")) ((bnd2 (some (.str "send")) ((bnd2 (some (.str "answer")) ((bnd2 (some (.str "lay")) ((bnd2 (some (.str "answer")) (some []) consD)) consD)) consD)) consD)) consD)).bind tupD) (bnd2 (gb 2 ρ) (some (.int 7)) subD) ixD) ((bnd2 (gv 3 ρ) (some []) consD)) consD)).bind tupD)
/-! _law_book: by ['_law_drawn', '_law_deed', '_law_test'], 11 names -/
def fb__law_book (m__law_drawn : List PyData → Option PyData) (m__law_deed : List PyData → Option PyData) (m__law_test : List PyData → Option PyData) : Rho → Option Res := fun ρ =>
  seqR (asgR 1 ρ (bnd2 (((bnd2 (((bnd2 (some (.str "main")) (some []) consD)).bind tupD) ((bnd2 (((bnd2 (some (.str "main")) ((bnd2 (some (.str "sub")) (some []) consD)) consD)).bind tupD) ((bnd2 (((bnd2 (some (.str "a")) ((bnd2 (some (.str "main")) ((bnd2 (some (.str "sub")) (some []) consD)) consD)) consD)).bind tupD) ((bnd2 (((bnd2 (some (.str "a")) ((bnd2 (some (.str "main")) (some []) consD)) consD)).bind tupD) (some []) consD)) consD)) consD)) consD)).bind tupD) (bnd2 (gb 0 ρ) (some (.int 4)) modD) ixD)) fun ρ =>
  seqR (asgR 2 ρ ((some []).bind tupD)) fun ρ =>
  seqR (forR ((gv 1 ρ).bind enumD) (tgT 2 (tgC tg1 (tgC tg1 tgN))) [3, 4] (fun ρ =>
  seqR (asgR 5 ρ (bnd2 (((bnd2 (gv 0 ρ) ((bnd2 (gv 3 ρ) (some []) consD)) consD)).bind m__law_drawn) (some (.int 4)) fdivD)) fun ρ =>
  seqR (asgR 6 ρ ((some []).bind tupD)) fun ρ =>
  seqR (forR (((bnd2 (bnd2 (((bnd2 (some (.int 0)) ((bnd2 (some (.int 1)) ((bnd2 (some (.int 2)) ((bnd2 (some (.int 3)) ((bnd2 (some (.int 4)) ((bnd2 (some (.int 2)) (some []) consD)) consD)) consD)) consD)) consD)) consD)).bind tupD) (bnd2 (gb 5 ρ) (some (.int 6)) modD) ixD) (some []) consD)).bind rng1D) tg1 [7] (fun ρ =>
  seqR (asgR 8 ρ (bnd2 (((bnd2 (gv 5 ρ) ((bnd2 (bnd2 (some (.int 10)) (gb 7 ρ) addD) (some []) consD)) consD)).bind m__law_drawn) (some (.int 4)) fdivD)) fun ρ =>
  seqR (asgR 9 ρ ((compR (((bnd2 (bnd2 (some (.int 1)) (bnd2 (gb 8 ρ) (some (.int 3)) modD) addD) (some []) consD)).bind rng1D) tg1 [10] (fun ρ => some true) (fun ρ => ((bnd2 (bnd2 (((bnd2 (gv 8 ρ) ((bnd2 (bnd2 (some (.int 20)) (gb 10 ρ) addD) (some []) consD)) consD)).bind m__law_drawn) (some (.int 4)) fdivD) ((bnd2 (gv 1 ρ) (some []) consD)) consD)).bind m__law_deed) [10] ρ).bind tupleD)) fun ρ =>
  asgR 6 ρ (bnd2 (gb 6 ρ) (((bnd2 (((bnd2 (((bnd2 (bnd2 (gb 8 ρ) (some (.int 4)) fdivD) ((bnd2 (bnd2 (some (.int 1)) (bnd2 (bnd2 (gb 8 ρ) (some (.int 8)) fdivD) (some (.int 3)) modD) addD) (some []) consD)) consD)).bind m__law_test) ((bnd2 (gv 9 ρ) (some []) consD)) consD)).bind tupD) (some []) consD)).bind tupD) addD)) ρ) fun ρ =>
  asgR 2 ρ (bnd2 (gb 2 ρ) (((bnd2 (((bnd2 (gv 4 ρ) ((bnd2 (gv 6 ρ) (some []) consD)) consD)).bind tupD) (some []) consD)).bind tupD) addD)) ρ) fun ρ =>
  retR (gv 2 ρ)
/-! _law_letter: by [], 7 names -/
def fb__law_letter : Rho → Option Res := fun ρ =>
  seqR (asgR 1 ρ (bnd2 (((bnd2 (some (.str "ann")) ((bnd2 (some (.str "bob")) ((bnd2 (some (.str "cy")) (some []) consD)) consD)) consD)).bind tupD) (bnd2 (gb 0 ρ) (some (.int 3)) modD) ixD)) fun ρ =>
  seqR (asgR 2 ρ ((compR ((((bnd2 (some (.str "hi")) ((bnd2 (some (.str "now")) ((bnd2 (some (.str "x")) (some []) consD)) consD)) consD)).bind tupD).bind enumD) (tgT 2 (tgC tg1 (tgC tg1 tgN))) [4, 5] (fun ρ => (bnd2 (bnd2 (bnd2 (gb 0 ρ) (bnd2 (((bnd2 (some (.int 8)) ((bnd2 (some (.int 16)) ((bnd2 (some (.int 32)) (some []) consD)) consD)) consD)).bind tupD) (gb 4 ρ) ixD) fdivD) (some (.int 2)) modD) (some (.int 1)) eqD).bind asB) (fun ρ => gv 5 ρ) [4, 5] ρ).bind tupleD)) fun ρ =>
  seqR (asgR 3 ρ ((compR ((((bnd2 (some (.str "m")) ((bnd2 (some (.str "red")) ((bnd2 (some (.str "z")) (some []) consD)) consD)) consD)).bind tupD).bind enumD) (tgT 2 (tgC tg1 (tgC tg1 tgN))) [4, 6] (fun ρ => (bnd2 (bnd2 (bnd2 (gb 0 ρ) (bnd2 (((bnd2 (some (.int 64)) ((bnd2 (some (.int 128)) ((bnd2 (some (.int 256)) (some []) consD)) consD)) consD)).bind tupD) (gb 4 ρ) ixD) fdivD) (some (.int 2)) modD) (some (.int 1)) eqD).bind asB) (fun ρ => gv 6 ρ) [4, 6] ρ).bind tupleD)) fun ρ =>
  retR (((bnd2 (gv 1 ρ) ((bnd2 (gv 2 ρ) ((bnd2 (bnd2 (((bnd2 (some (.int 0)) ((bnd2 (some (.int 10)) ((bnd2 (some (.int 11)) ((bnd2 (some (.int 500)) ((bnd2 (some (.int 501)) ((bnd2 (some (.int 999)) (some []) consD)) consD)) consD)) consD)) consD)) consD)).bind tupD) (bnd2 (bnd2 (gb 0 ρ) (some (.int 512)) fdivD) (some (.int 6)) modD) ixD) ((bnd2 (gv 3 ρ) (some []) consD)) consD)) consD)) consD)).bind tupD)
/-! holds_with: by ['holds_with'], 4 names -/
def fb_holds_with (m_holds_with : List PyData → Option PyData) : Rho → Option Res := fun ρ =>
  seqR (asgR 3 ρ (bnd2 (gb 0 ρ) (some (.int 0)) ixD)) fun ρ =>
  seqR (ifR ((bnd2 (gb 3 ρ) (some (.str "yes")) eqD).bind asB) (retR (some (.bool true))) (some (.nx ρ))) fun ρ =>
  seqR (ifR ((bnd2 (gb 3 ρ) (some (.str "not")) eqD).bind asB) (retR (notV (((bnd2 (bnd2 (gb 0 ρ) (some (.int 1)) ixD) ((bnd2 (gv 1 ρ) ((bnd2 (gv 2 ρ) (some []) consD)) consD)) consD)).bind m_holds_with))) (some (.nx ρ))) fun ρ =>
  seqR (ifR ((bnd2 (gb 3 ρ) (some (.str "both")) eqD).bind asB) (retR (andV (((bnd2 (bnd2 (gb 0 ρ) (some (.int 1)) ixD) ((bnd2 (gv 1 ρ) ((bnd2 (gv 2 ρ) (some []) consD)) consD)) consD)).bind m_holds_with) (((bnd2 (bnd2 (gb 0 ρ) (some (.int 2)) ixD) ((bnd2 (gv 1 ρ) ((bnd2 (gv 2 ρ) (some []) consD)) consD)) consD)).bind m_holds_with))) (some (.nx ρ))) fun ρ =>
  seqR (ifR ((bnd2 (gb 3 ρ) (some (.str "either")) eqD).bind asB) (retR (orV (((bnd2 (bnd2 (gb 0 ρ) (some (.int 1)) ixD) ((bnd2 (gv 1 ρ) ((bnd2 (gv 2 ρ) (some []) consD)) consD)) consD)).bind m_holds_with) (((bnd2 (bnd2 (gb 0 ρ) (some (.int 2)) ixD) ((bnd2 (gv 1 ρ) ((bnd2 (gv 2 ρ) (some []) consD)) consD)) consD)).bind m_holds_with))) (some (.nx ρ))) fun ρ =>
  seqR (ifR ((bnd2 (gb 3 ρ) (some (.str "from")) eqD).bind asB) (retR (bnd2 (bnd2 (gb 1 ρ) (some (.int 0)) ixD) (bnd2 (gb 0 ρ) (some (.int 1)) ixD) eqD)) (some (.nx ρ))) fun ρ =>
  seqR (ifR ((bnd2 (gb 3 ρ) (some (.str "word")) eqD).bind asB) (retR (bnd2 (bnd2 (gb 0 ρ) (some (.int 1)) ixD) (bnd2 (gb 1 ρ) (some (.int 1)) ixD) inD)) (some (.nx ρ))) fun ρ =>
  seqR (ifR ((bnd2 (gb 3 ρ) (some (.str "over")) eqD).bind asB) (retR (bnd2 (bnd2 (gb 1 ρ) (some (.int 2)) ixD) (bnd2 (gb 0 ρ) (some (.int 1)) ixD) gtD)) (some (.nx ρ))) fun ρ =>
  retR (bnd2 (bnd2 (gb 0 ρ) (some (.int 1)) ixD) (gb 2 ρ) inD)
/-! holds: by ['holds_with'], 2 names -/
def fb_holds (m_holds_with : List PyData → Option PyData) : Rho → Option Res := fun ρ =>
  retR (((bnd2 (gv 0 ρ) ((bnd2 (gv 1 ρ) ((bnd2 (bnd2 (gb 1 ρ) (some (.int 3)) ixD) (some []) consD)) consD)) consD)).bind m_holds_with)
end Sv

/-! What the laws' own drawing defs give, as plain functions. -/
namespace Sv
open PySem L2 Evl

/-! ### evaluating residues -/
theorem bnd2_ss {α β γ : Type} (a : α) (b : β) (g : α → β → Option γ) : bnd2 (some a) (some b) g = g a b := rfl
theorem seqR_nx (ρ : Rho) (g : Rho → Option Res) : seqR (some (.nx ρ)) g = g ρ := rfl
theorem seqR_ret (d : PyData) (g : Rho → Option Res) : seqR (some (.ret d)) g = some (.ret d) := rfl
theorem ifR_t (a b : Option Res) : ifR (some true) a b = a := rfl
theorem ifR_f (a b : Option Res) : ifR (some false) a b = b := rfl
theorem asgR_s (i : Nat) (ρ : Rho) (d : PyData) : asgR i ρ (some d) = some (.nx (ρ.set i (.val d))) := rfl
theorem retR_s (d : PyData) : retR (some d) = some (.ret d) := rfl
theorem retD_s (d : PyData) : retD (some (.ret d)) = some d := rfl
theorem asB_b (b : Bool) : asB (.bool b) = some b := rfl
theorem asI_i (i : Int) : asI (.int i) = some i := rfl
theorem consD_ (d : PyData) (ds : List PyData) : consD d ds = some (d :: ds) := rfl
theorem addD_ii (a b : Int) : addD (.int a) (.int b) = some (.int (a + b)) := rfl
theorem subD_ii (a b : Int) : subD (.int a) (.int b) = some (.int (a - b)) := rfl
theorem modD_ii (a b : Int) (h : 0 < b) : modD (.int a) (.int b) = some (.int (a % b)) := by simp [modD, h]
theorem fdivD_ii (a b : Int) (h : CDiv a b) : fdivD (.int a) (.int b) = some (.int (a / b)) := by simp [fdivD, h]
theorem mulD_ii (a b : Int) (h : CMul a b) : mulD (.int a) (.int b) = some (.int (a * b)) := by simp [mulD, h]
theorem gtD_ii (a b : Int) : gtD (.int a) (.int b) = some (.bool (decide (b < a))) := rfl
theorem geD_ii (a b : Int) : geD (.int a) (.int b) = some (.bool (decide (b ≤ a))) := rfl
theorem leD_ii (a b : Int) : leD (.int a) (.int b) = some (.bool (decide (a ≤ b))) := rfl
theorem ltD_ii (a b : Int) : ltD (.int a) (.int b) = some (.bool (decide (a < b))) := rfl
theorem eqD_ii (a b : Int) : eqD (.int a) (.int b) = some (.bool (decide (a = b))) := rfl
theorem eqD_ss (a b : Str) : eqD (.str a) (.str b) = some (.bool (decide (a = b))) := rfl
theorem neD_ss (a b : Str) : neD (.str a) (.str b) = some (.bool (!decide (a = b))) := rfl
theorem neD_ii (a b : Int) : neD (.int a) (.int b) = some (.bool (!decide (a = b))) := rfl
theorem neD_bb (a b : Bool) : neD (.bool a) (.bool b) = some (.bool (!decide (a = b))) := rfl
theorem ixD_t (ds : List PyData) (i : Int) : ixD (.tuple ds) (.int i) = atI ds i := rfl
theorem ixD_l (ds : List PyData) (i : Int) : ixD (.list ds) (.int i) = atI ds i := rfl

def drawnD (n k : Int) : Int := (n + 104729 * k + 17) * 69621 % 2147483647
def drawnN (n k : Int) : Int := (drawnD n k * drawnD n k + 3 * drawnD n k + k) % 2147483629
def m_drawn : List PyData → Option PyData := runD 3 2 fb__law_drawn
theorem drawn_eq (n k : Int) : m_drawn [.int n, .int k] = some (.int (drawnN n k)) := by
  have d1 : 0 ≤ drawnD n k := Int.emod_nonneg _ (by decide)
  have d2 : drawnD n k < 2147483647 := Int.emod_lt_of_pos _ (by decide)
  have c1 : CMul 104729 k := .inl (by decide)
  have c2 : CMul (n + 104729 * k + 17) 69621 := .inr (by decide)
  have c3 : CMul (drawnD n k) (drawnD n k) := .inl ⟨by omega, by omega⟩
  have c4 : CMul 3 (drawnD n k) := .inl (by decide)
  have e : (n + 104729 * k + 17) * 69621 % 2147483647 = drawnD n k := rfl
  simp [m_drawn, runD, fb__law_drawn, startR, gb, bnd2_ss, mulD_ii, c1, c2, c3, c4, addD_ii, modD_ii, asgR_s, seqR_nx, retR_s, retD_s, e, drawnN]

/-! ### items by a remainder -/
def pk2 {α : Type} (a b : α) (n : Int) : α := if n % 2 = 0 then a else b
def pk3 {α : Type} (a b c : α) (n : Int) : α := if n % 3 = 0 then a else if n % 3 = 1 then b else c
def pk4 {α : Type} (a b c d : α) (n : Int) : α := if n % 4 = 0 then a else if n % 4 = 1 then b else if n % 4 = 2 then c else d
def pk6 {α : Type} (a b c d e f : α) (n : Int) : α := if n % 6 = 0 then a else if n % 6 = 1 then b else if n % 6 = 2 then c else if n % 6 = 3 then d else if n % 6 = 4 then e else f
theorem atI_0 {α : Type} (a : α) (r : List α) : atI (a :: r) 0 = some a := atI_nat (j := 0) rfl
theorem atI_1 {α : Type} (a b : α) (r : List α) : atI (a :: b :: r) 1 = some b := atI_nat (j := 1) rfl
theorem atI_2 {α : Type} (a b c : α) (r : List α) : atI (a :: b :: c :: r) 2 = some c := atI_nat (j := 2) rfl
theorem atI_3 {α : Type} (a b c d : α) (r : List α) : atI (a :: b :: c :: d :: r) 3 = some d := atI_nat (j := 3) rfl
theorem atI_4 {α : Type} (a b c d e : α) (r : List α) : atI (a :: b :: c :: d :: e :: r) 4 = some e := atI_nat (j := 4) rfl
theorem atI_5 {α : Type} (a b c d e f : α) (r : List α) : atI (a :: b :: c :: d :: e :: f :: r) 5 = some f := atI_nat (j := 5) rfl
theorem atI_pk2 {α : Type} (a b : α) (n : Int) : atI [a, b] (n % 2) = some (pk2 a b n) := by
  have h : n % 2 = 0 ∨ n % 2 = 1 := by omega
  unfold pk2
  rcases h with h | h <;> rw [h]
  · simp [atI_0]
  · simp [atI_1]
theorem atI_pk3 {α : Type} (a b c : α) (n : Int) : atI [a, b, c] (n % 3) = some (pk3 a b c n) := by
  have h : n % 3 = 0 ∨ n % 3 = 1 ∨ n % 3 = 2 := by omega
  unfold pk3
  rcases h with h | h | h <;> rw [h]
  · simp [atI_0]
  · simp [atI_1]
  · simp [atI_2]
theorem atI_pk4 {α : Type} (a b c d : α) (n : Int) : atI [a, b, c, d] (n % 4) = some (pk4 a b c d n) := by
  have h : n % 4 = 0 ∨ n % 4 = 1 ∨ n % 4 = 2 ∨ n % 4 = 3 := by omega
  unfold pk4
  rcases h with h | h | h | h <;> rw [h]
  · simp [atI_0]
  · simp [atI_1]
  · simp [atI_2]
  · simp [atI_3]
theorem atI_pk6 {α : Type} (a b c d e f : α) (n : Int) : atI [a, b, c, d, e, f] (n % 6) = some (pk6 a b c d e f n) := by
  have h : n % 6 = 0 ∨ n % 6 = 1 ∨ n % 6 = 2 ∨ n % 6 = 3 ∨ n % 6 = 4 ∨ n % 6 = 5 := by omega
  unfold pk6
  rcases h with h | h | h | h | h | h <;> rw [h]
  · simp [atI_0]
  · simp [atI_1]
  · simp [atI_2]
  · simp [atI_3]
  · simp [atI_4]
  · simp [atI_5]
theorem pk2_map {α β : Type} (f : α → β) (a b : α) (n : Int) : pk2 (f a) (f b) n = f (pk2 a b n) := by unfold pk2; split <;> rfl
theorem pk3_map {α β : Type} (f : α → β) (a b c : α) (n : Int) : pk3 (f a) (f b) (f c) n = f (pk3 a b c n) := by unfold pk3; split <;> (try split) <;> rfl
theorem pk4_map {α β : Type} (f : α → β) (a b c d : α) (n : Int) : pk4 (f a) (f b) (f c) (f d) n = f (pk4 a b c d n) := by unfold pk4; split <;> (try split) <;> (try split) <;> rfl
theorem pk6_map {α β : Type} (f : α → β) (a b c d e g : α) (n : Int) : pk6 (f a) (f b) (f c) (f d) (f e) (f g) n = f (pk6 a b c d e g n) := by unfold pk6; split <;> (try split) <;> (try split) <;> (try split) <;> (try split) <;> rfl

/-! ### tests -/
inductive Tst where
  | frm (s : Str)
  | word (s : Str)
  | over (n : Int)
  | marked (s : Str)
  | yes
  | not (t : Tst)
  | both (a b : Tst)
  | either (a b : Tst)
def Tst.enc : Tst → PyData
  | .frm s => .tuple [.str "from", .str s]
  | .word s => .tuple [.str "word", .str s]
  | .over n => .tuple [.str "over", .int n]
  | .marked s => .tuple [.str "marked", .str s]
  | .yes => .tuple [.str "yes"]
  | .not t => .tuple [.str "not", t.enc]
  | .both a b => .tuple [.str "both", a.enc, b.enc]
  | .either a b => .tuple [.str "either", a.enc, b.enc]
def leafN (n : Int) : Tst :=
  if n % 8 = 0 then .frm (pk2 "ann" "bob" (n / 8)) else if n % 8 = 1 then .over (pk3 10 500 999 (n / 8)) else if n % 8 = 2 then .marked (pk2 "m" "red" (n / 8)) else if n % 8 = 3 then .yes else .word (pk2 "hi" "now" (n / 8))
def testN : Nat → Int → Tst
  | 0, n => leafN n
  | d + 1, n => if 0 < d ∧ 4 < n % 8 then
      (if n % 8 = 5 then .not (testN d (drawnN n 1 / 4)) else if n % 8 = 6 then .both (testN d (drawnN n 1 / 4)) (testN d (drawnN n 2 / 4)) else .either (testN d (drawnN n 1 / 4)) (testN d (drawnN n 2 / 4)))
    else leafN n
def m_test : Nat → List PyData → Option PyData := itm fun m => runD 5 2 (fb__law_test m m_drawn)
theorem tupD_ (ds : List PyData) (h : ds.length ≤ 1000) : tupD ds = some (.tuple ds) := by
  unfold tupD lenOk
  rw [if_pos (decide_eq_true (Nat.le_trans h (by decide)))]
theorem lstD_ (ds : List PyData) (h : ds.length ≤ 1000) : lstD ds = some (.list ds) := by
  unfold lstD lenOk
  rw [if_pos (decide_eq_true (Nat.le_trans h (by decide)))]
theorem cdiv {i j : Int} (h : 0 < j ∧ j < 1073741824) : CDiv i j := h
theorem test_leaf (m : List PyData → Option PyData) (x d : Int) (h : ¬ (1 < d ∧ 4 < x % 8)) : runD 5 2 (fb__law_test m m_drawn) [.int x, .int d] = some (leafN x).enc := by
  have c8 : CDiv x 8 := cdiv (by decide)
  have hk : x % 8 = 0 ∨ x % 8 = 1 ∨ x % 8 = 2 ∨ x % 8 = 3 ∨ 3 < x % 8 := by omega
  have hif : (decide (1 < d) && decide (4 < x % 8)) = false := by
    by_cases h1 : 1 < d
    · have : ¬ 4 < x % 8 := fun h2 => h ⟨h1, h2⟩
      simp [this]
    · simp [h1]
  have hab : andB (some (decide (1 < d))) (some (decide (4 < x % 8))) = some false := by
    cases h1 : decide (1 < d) with
    | false => rfl
    | true => rw [h1] at hif; simpa [andB] using hif
  unfold leafN
  rcases hk with h | h | h | h | h
  all_goals simp [runD, fb__law_test, startR, gb, gv, bnd2_ss, modD_ii, asgR_s, seqR_nx, gtD_ii, asB_b]
  all_goals rw [hab]
  · simp [ifR_f, ifR_t, seqR_nx, eqD_ii, asB_b, h, consD_, bnd2_ss, fdivD_ii, c8, modD_ii, tupD_, ixD_t, atI_pk2, atI_pk3, retR_s, seqR_ret, retD_s, Tst.enc, pk2_map PyData.str, pk3_map PyData.int]
  · simp [ifR_f, ifR_t, seqR_nx, eqD_ii, asB_b, h, consD_, bnd2_ss, fdivD_ii, c8, modD_ii, tupD_, ixD_t, atI_pk2, atI_pk3, retR_s, seqR_ret, retD_s, Tst.enc, pk2_map PyData.str, pk3_map PyData.int]
  · simp [ifR_f, ifR_t, seqR_nx, eqD_ii, asB_b, h, consD_, bnd2_ss, fdivD_ii, c8, modD_ii, tupD_, ixD_t, atI_pk2, atI_pk3, retR_s, seqR_ret, retD_s, Tst.enc, pk2_map PyData.str, pk3_map PyData.int]
  · simp [ifR_f, ifR_t, seqR_nx, eqD_ii, asB_b, h, consD_, bnd2_ss, fdivD_ii, c8, modD_ii, tupD_, ixD_t, atI_pk2, atI_pk3, retR_s, seqR_ret, retD_s, Tst.enc, pk2_map PyData.str, pk3_map PyData.int]
  · have n0 : ¬ x % 8 = 0 := by omega
    have n1 : ¬ x % 8 = 1 := by omega
    have n2 : ¬ x % 8 = 2 := by omega
    have n3 : ¬ x % 8 = 3 := by omega
    simp [ifR_f, ifR_t, seqR_nx, eqD_ii, asB_b, n0, n1, n2, n3, consD_, bnd2_ss, fdivD_ii, c8, modD_ii, tupD_, ixD_t, atI_pk2, atI_pk3, retR_s, seqR_ret, retD_s, Tst.enc, pk2_map PyData.str, pk3_map PyData.int]
theorem test_eq : ∀ (n d : Nat) (x : Int), d ≤ n + 1 → m_test (n + 1) [.int x, .int (d : Int)] = some (testN d x).enc
  | n, 0, x, hd => test_leaf _ x 0 (by omega)
  | n, 1, x, hd => by
    have ht : testN 1 x = leafN x := by simp [testN]
    rw [ht]
    exact test_leaf _ x 1 (by omega)
  | 0, d + 2, x, hd => by omega
  | n + 1, d + 2, x, hd => by
    by_cases h4 : 4 < x % 8
    · have i1 := test_eq n (d + 1) (drawnN x 1 / 4) (by omega)
      have i2 := test_eq n (d + 1) (drawnN x 2 / 4) (by omega)
      have c4 : ∀ y, CDiv y 4 := fun y => cdiv (by decide)
      have hd1 : ((d + 2 : Nat) : Int) - 1 = ((d + 1 : Nat) : Int) := by omega
      have hd2 : (1 : Int) < ((d + 2 : Nat) : Int) := by omega
      have hk : x % 8 = 5 ∨ x % 8 = 6 ∨ x % 8 = 7 := by omega
      show runD 5 2 (fb__law_test (m_test (n + 1)) m_drawn) [.int x, .int ((d + 2 : Nat) : Int)] = _
      unfold testN
      rw [if_pos ⟨by omega, h4⟩]
      have e1 : m_test (n + 1) [.int (drawnN x 1 / 4), .int (((d + 2 : Nat) : Int) - 1)] = some (testN (d + 1) (drawnN x 1 / 4)).enc := by rw [hd1]; exact i1
      have e2 : m_test (n + 1) [.int (drawnN x 2 / 4), .int (((d + 2 : Nat) : Int) - 1)] = some (testN (d + 1) (drawnN x 2 / 4)).enc := by rw [hd1]; exact i2
      generalize ((d + 2 : Nat) : Int) = D at *
      rcases hk with h | h | h
      all_goals simp [runD, fb__law_test, startR, gb, gv, bnd2_ss, modD_ii, asgR_s, seqR_nx, gtD_ii, subD_ii, asB_b, andB, hd2, h, ifR_t, consD_, drawn_eq, fdivD_ii, c4, e1, e2, tupD_, lstD_, ixD_l, atI_0, atI_1, atI_2, retR_s, seqR_ret, retD_s, Tst.enc]
    · have ht : testN (d + 2) x = leafN x := by
        unfold testN
        rw [if_neg fun z => h4 z.2]
      rw [ht]
      exact test_leaf _ x _ (fun z => h4 z.2)

/-! ### written texts -/
theorem ofS_inj (a b : String) : (Str.ofString a = Str.ofString b) = (a = b) := by
  apply propext
  refine ⟨fun h => ?_, fun h => by rw [h]⟩
  rw [Str.ofString_eq_toList, Str.ofString_eq_toList] at h
  have h1 : a.toList.map Char.toNat = b.toList.map Char.toNat := by
    injection h with h
    exact List.toArray_inj h
  have h2 : a.toList = b.toList := List.map_inj_right (fun x y e => Char.toNat_inj.mp e) |>.mp h1
  exact String.toList_inj.mp h2

/-! ### data that == takes -/
def nmOk (s : Str) : Bool := PyData.strOk s
theorem shp_str (s : Str) : shp (.str s) = nmOk s := by simp [shp, SeqAt.shaped, PyData.canLay0, PyData.depth, nmOk]
theorem shp_iff (d : PyData) : shp d = true ↔ d.canLay0 = true ∧ d.depth ≤ 64 := by simp [shp, SeqAt.shaped]
theorem lay_strs : ∀ (ss : List Str), ss.all nmOk = true → PyData.canLayAll0 (ss.map .str) = true
  | [], _ => by simp [PyData.canLayAll0]
  | s :: ss, h => by
    simp only [List.all_cons, Bool.and_eq_true] at h
    simp only [List.map_cons, PyData.canLayAll0, PyData.canLay0, Bool.and_eq_true]
    exact ⟨h.1, lay_strs ss h.2⟩
theorem dep_strs : ∀ (ss : List Str), PyData.depthAll (ss.map .str) = 0
  | [] => by simp [PyData.depthAll]
  | s :: ss => by simp [PyData.depthAll, PyData.depth, dep_strs ss]
theorem shp_tstrs (ss : List Str) (h : ss.all nmOk = true) : shp (.tuple (ss.map .str)) = true := by
  rw [shp_iff]
  exact ⟨by simpa [PyData.canLay0] using lay_strs ss h, by simp [PyData.depth, dep_strs]⟩
theorem shp_lstrs (ss : List Str) (h : ss.all nmOk = true) : shp (.list (ss.map .str)) = true := by
  rw [shp_iff]
  exact ⟨by simpa [PyData.canLay0] using lay_strs ss h, by simp [PyData.depth, dep_strs]⟩
theorem str_beq (a b : Str) : (a == b) = decide (a = b) := by
  by_cases h : a = b
  · subst h; simp
  · rw [decide_eq_false h]; exact beq_eq_false_iff_ne.mpr h
theorem any_str (s : Str) : ∀ ss : List Str, ((ss.map PyData.str).any fun z => PyData.eqv z (.str s)) = decide (s ∈ ss)
  | [] => by simp
  | x :: ss => by
    simp only [List.map_cons, List.any_cons, any_str s ss, PyData.eqv, str_beq, List.mem_cons]
    by_cases h : x = s
    · subst h; simp
    · have h' : ¬ s = x := fun e => h e.symm
      simp [h, h']
theorem inD_t (s : Str) (ss : List Str) (h : ss.all nmOk = true) (hs : nmOk s = true) : inD (.str s) (.tuple (ss.map .str)) = some (.bool (decide (s ∈ ss))) := by
  unfold inD inB
  simp only [itemsOf, shp_str, hs, shp_tstrs ss h, any_str, Bool.and_self, if_true, Option.map_some]
theorem inD_l (s : Str) (ss : List Str) (h : ss.all nmOk = true) (hs : nmOk s = true) : inD (.str s) (.list (ss.map .str)) = some (.bool (decide (s ∈ ss))) := by
  unfold inD inB
  simp only [itemsOf, shp_str, hs, shp_lstrs ss h, any_str, Bool.and_self, if_true, Option.map_some]

/-! ### letters -/
structure Ltr where
  sender : Str
  words : List Str
  size : Int
  marks : List Str
def strsD (ss : List Str) : PyData := .tuple (ss.map .str)
def Ltr.enc (l : Ltr) : PyData := .tuple [.str l.sender, strsD l.words, .int l.size, strsD l.marks]
def Ltr.ok (l : Ltr) : Bool := nmOk l.sender && l.words.all nmOk && l.marks.all nmOk
def wordsN (x : Int) : List Str := (if x / 8 % 2 = 1 then [("hi" : Str)] else []) ++ ((if x / 16 % 2 = 1 then [("now" : Str)] else []) ++ (if x / 32 % 2 = 1 then [("x" : Str)] else []))
def marksN (x : Int) : List Str := (if x / 64 % 2 = 1 then [("m" : Str)] else []) ++ ((if x / 128 % 2 = 1 then [("red" : Str)] else []) ++ (if x / 256 % 2 = 1 then [("z" : Str)] else []))
def letterN (x : Int) : Ltr := ⟨pk3 "ann" "bob" "cy" x, wordsN x, pk6 0 10 11 500 501 999 (x / 512), marksN x⟩
def m_letter : List PyData → Option PyData := runD 7 1 fb__law_letter
theorem tgT2 (i j : PyData) : tgT 2 (tgC tg1 (tgC tg1 tgN)) (.tuple [i, j]) = some [i, j] := rfl
theorem lenOk_ {n : Nat} (h : n ≤ 1000) : lenOk n = true := decide_eq_true (Nat.le_trans h (by decide))
theorem seq_step {a : Option Res} {g : Rho → Option Res} {ρ : Rho} {r : Option Res} (h : a = some (.nx ρ)) (h2 : g ρ = r) : seqR a g = r := by rw [h]; exact h2
theorem run_step {n k : Nat} {fb : Rho → Option Res} {ds : List PyData} {d : PyData} (hl : ds.length = k) (h : fb (startR n ds) = some (.ret d)) : runD n k fb ds = some d := by unfold runD; rw [if_pos hl, h]; rfl
theorem letter_eq (x : Int) : m_letter [.int x] = some (letterN x).enc := by
  have c : ∀ k : Int, 0 < k → k < 1073741824 → CDiv x k := fun k h1 h2 => cdiv ⟨h1, h2⟩
  have h8 : x / 8 % 2 = 0 ∨ x / 8 % 2 = 1 := by omega
  have h16 : x / 16 % 2 = 0 ∨ x / 16 % 2 = 1 := by omega
  have h32 : x / 32 % 2 = 0 ∨ x / 32 % 2 = 1 := by omega
  have h64 : x / 64 % 2 = 0 ∨ x / 64 % 2 = 1 := by omega
  have h128 : x / 128 % 2 = 0 ∨ x / 128 % 2 = 1 := by omega
  have h256 : x / 256 % 2 = 0 ∨ x / 256 % 2 = 1 := by omega
  refine run_step rfl ?_
  refine seq_step (ρ := [.val (.int x), .val (.str (pk3 "ann" "bob" "cy" x)), .no, .no, .no, .no, .no]) ?_ ?_
  · simp [startR, bnd2_ss, consD_, tupD_, gb, modD_ii, ixD_t, atI_pk3, asgR_s, pk3_map PyData.str]
  refine seq_step (ρ := [.val (.int x), .val (.str (pk3 "ann" "bob" "cy" x)), .val (strsD (wordsN x)), .no, .no, .no, .no]) ?_ ?_
  · unfold wordsN strsD
    rcases h8 with a | a <;> rcases h16 with b | b <;> rcases h32 with d | d <;>
    simp [compR, compD, bnd2_ss, consD_, tupD_, enumD, itemsOf, enumFrom, lenOk_, tgT2, wipeR, setsR, gb, gv, ixD_t, atI_0, atI_1, atI_2, fdivD_ii, c, modD_ii, eqD_ii, asB_b, a, b, d, tupleD, asgR_s]
  refine seq_step (ρ := [.val (.int x), .val (.str (pk3 "ann" "bob" "cy" x)), .val (strsD (wordsN x)), .val (strsD (marksN x)), .no, .no, .no]) ?_ ?_
  · unfold marksN strsD
    rcases h64 with a | a <;> rcases h128 with b | b <;> rcases h256 with d | d <;>
    simp [compR, compD, bnd2_ss, consD_, tupD_, enumD, itemsOf, enumFrom, lenOk_, tgT2, wipeR, setsR, gb, gv, ixD_t, atI_0, atI_1, atI_2, fdivD_ii, c, modD_ii, eqD_ii, asB_b, a, b, d, tupleD, asgR_s]
  simp [gv, gb, bnd2_ss, consD_, tupD_, fdivD_ii, c, modD_ii, ixD_t, atI_pk6, retR_s, letterN, Ltr.enc, pk6_map PyData.int]

/-! ### whether a test holds -/
def hold : Tst → Ltr → List Str → Bool
  | .frm s, l, _ => decide (l.sender = s)
  | .word s, l, _ => decide (s ∈ l.words)
  | .over n, l, _ => decide (n < l.size)
  | .marked s, _, ms => decide (s ∈ ms)
  | .yes, _, _ => true
  | .not t, l, ms => !hold t l ms
  | .both a b, l, ms => hold a l ms && hold b l ms
  | .either a b, l, ms => hold a l ms || hold b l ms
def Tst.dep : Tst → Nat
  | .not t => t.dep + 1
  | .both a b => max a.dep b.dep + 1
  | .either a b => max a.dep b.dep + 1
  | _ => 0
def Tst.ok : Tst → Bool
  | .frm s => nmOk s
  | .word s => nmOk s
  | .marked s => nmOk s
  | .over _ => true
  | .yes => true
  | .not t => t.ok
  | .both a b => a.ok && b.ok
  | .either a b => a.ok && b.ok
def m_hw : Nat → List PyData → Option PyData := itm fun m => runD 4 3 (fb_holds_with m)
theorem m_hw_succ (n : Nat) (ds : List PyData) : m_hw (n + 1) ds = runD 4 3 (fb_holds_with (m_hw n)) ds := rfl
/-- marks, as a tuple or a list -/
def MarksD (md : PyData) (ms : List Str) : Prop := md = .tuple (ms.map .str) ∨ md = .list (ms.map .str)
theorem inD_m {s : Str} {ms : List Str} {md : PyData} (h : MarksD md ms) (ho : ms.all nmOk = true) (hs : nmOk s = true) : inD (.str s) md = some (.bool (decide (s ∈ ms))) := by
  rcases h with rfl | rfl
  · exact inD_t s ms ho hs
  · exact inD_l s ms ho hs
theorem hold_eq : ∀ (n : Nat) (t : Tst) (l : Ltr) (ms : List Str) (md : PyData), t.dep ≤ n → t.ok = true → l.ok = true → ms.all nmOk = true → MarksD md ms → m_hw (n + 1) [t.enc, l.enc, md] = some (.bool (hold t l ms))
  | n, .frm s, l, ms, md, hn, ht, hl, hm, hd => by
    simp [m_hw_succ, ofS_inj, runD, fb_holds_with, startR, gb, gv, bnd2_ss, Tst.enc, Ltr.enc, ixD_t, atI_0, atI_1, asgR_s, seqR_nx, eqD_ss, asB_b, ifR_f, ifR_t, retR_s, seqR_ret, retD_s, hold]
  | n, .word s, l, ms, md, hn, ht, hl, hm, hd => by
    simp only [Ltr.ok, Bool.and_eq_true] at hl
    have e := inD_t s l.words hl.1.2 ht
    simp [m_hw_succ, ofS_inj, runD, fb_holds_with, startR, gb, gv, bnd2_ss, Tst.enc, Ltr.enc, strsD, ixD_t, atI_0, atI_1, asgR_s, seqR_nx, eqD_ss, asB_b, ifR_f, ifR_t, retR_s, seqR_ret, retD_s, hold, e]
  | n, .over s, l, ms, md, hn, ht, hl, hm, hd => by
    simp [m_hw_succ, ofS_inj, runD, fb_holds_with, startR, gb, gv, bnd2_ss, Tst.enc, Ltr.enc, ixD_t, atI_0, atI_1, atI_2, asgR_s, seqR_nx, eqD_ss, asB_b, ifR_f, ifR_t, retR_s, seqR_ret, retD_s, hold, gtD_ii]
  | n, .marked s, l, ms, md, hn, ht, hl, hm, hd => by
    have e := inD_m hd hm (show nmOk s = true from ht)
    simp [m_hw_succ, ofS_inj, runD, fb_holds_with, startR, gb, gv, bnd2_ss, Tst.enc, Ltr.enc, ixD_t, atI_0, atI_1, asgR_s, seqR_nx, eqD_ss, asB_b, ifR_f, ifR_t, retR_s, seqR_ret, retD_s, hold, e]
  | n, .yes, l, ms, md, hn, ht, hl, hm, hd => by
    simp [m_hw_succ, ofS_inj, runD, fb_holds_with, startR, gb, gv, bnd2_ss, Tst.enc, Ltr.enc, ixD_t, atI_0, atI_1, asgR_s, seqR_nx, eqD_ss, asB_b, ifR_f, ifR_t, retR_s, seqR_ret, retD_s, hold]
  | 0, .not t, l, ms, md, hn, ht, hl, hm, hd => by simp [Tst.dep] at hn
  | 0, .both a b, l, ms, md, hn, ht, hl, hm, hd => by simp [Tst.dep] at hn
  | 0, .either a b, l, ms, md, hn, ht, hl, hm, hd => by simp [Tst.dep] at hn
  | n + 1, .not t, l, ms, md, hn, ht, hl, hm, hd => by
    have e := hold_eq n t l ms md (by simp [Tst.dep] at hn; omega) ht hl hm hd
    rw [m_hw_succ]
    simp [ofS_inj, runD, fb_holds_with, startR, gb, gv, bnd2_ss, Tst.enc, ixD_t, atI_0, atI_1, asgR_s, seqR_nx, eqD_ss, asB_b, ifR_f, ifR_t, retR_s, seqR_ret, retD_s, hold, consD_, e, notV]
  | n + 1, .both a b, l, ms, md, hn, ht, hl, hm, hd => by
    simp only [Tst.ok, Bool.and_eq_true] at ht
    have e1 := hold_eq n a l ms md (by simp [Tst.dep] at hn; omega) ht.1 hl hm hd
    have e2 := hold_eq n b l ms md (by simp [Tst.dep] at hn; omega) ht.2 hl hm hd
    rw [m_hw_succ]
    cases h1 : hold a l ms <;> rw [h1] at e1 <;>
    simp [ofS_inj, runD, fb_holds_with, startR, gb, gv, bnd2_ss, Tst.enc, ixD_t, atI_0, atI_1, atI_2, asgR_s, seqR_nx, eqD_ss, asB_b, ifR_f, ifR_t, retR_s, seqR_ret, retD_s, hold, consD_, e1, e2, andV, h1]
  | n + 1, .either a b, l, ms, md, hn, ht, hl, hm, hd => by
    simp only [Tst.ok, Bool.and_eq_true] at ht
    have e1 := hold_eq n a l ms md (by simp [Tst.dep] at hn; omega) ht.1 hl hm hd
    have e2 := hold_eq n b l ms md (by simp [Tst.dep] at hn; omega) ht.2 hl hm hd
    rw [m_hw_succ]
    cases h1 : hold a l ms <;> rw [h1] at e1 <;>
    simp [ofS_inj, runD, fb_holds_with, startR, gb, gv, bnd2_ss, Tst.enc, ixD_t, atI_0, atI_1, atI_2, asgR_s, seqR_nx, eqD_ss, asB_b, ifR_f, ifR_t, retR_s, seqR_ret, retD_s, hold, consD_, e1, e2, orV, h1]
def m_holds (n : Nat) : List PyData → Option PyData := runD 2 2 (fb_holds (m_hw n))
theorem holds_eq (n : Nat) (t : Tst) (l : Ltr) (hn : t.dep ≤ n) (ht : t.ok = true) (hl : l.ok = true) : m_holds (n + 1) [t.enc, l.enc] = some (.bool (hold t l l.marks)) := by
  have hm : l.marks.all nmOk = true := by simp only [Ltr.ok, Bool.and_eq_true] at hl; exact hl.2
  have e := hold_eq n t l l.marks (strsD l.marks) hn ht hl hm (.inl rfl)
  have e3 : atI [PyData.str l.sender, strsD l.words, .int l.size, strsD l.marks] 3 = some (strsD l.marks) := atI_3 _ _ _ _ _
  have el : l.enc = .tuple [PyData.str l.sender, strsD l.words, .int l.size, strsD l.marks] := rfl
  have e4 : ixD l.enc (.int 3) = some (strsD l.marks) := by rw [el]; exact e3
  simp [m_holds, runD, fb_holds, startR, gb, gv, bnd2_ss, consD_, e4, e, retR_s, retD_s]

/-! ### the drawn ones are as they should be -/
theorem pk2_all {α : Type} {p : α → Bool} {a b : α} (ha : p a = true) (hb : p b = true) (n : Int) : p (pk2 a b n) = true := by unfold pk2; split <;> assumption
theorem pk3_all {α : Type} {p : α → Bool} {a b c : α} (ha : p a = true) (hb : p b = true) (hc : p c = true) (n : Int) : p (pk3 a b c n) = true := by unfold pk3; split <;> (try split) <;> assumption
theorem leaf_ok (x : Int) : (leafN x).ok = true := by
  unfold leafN
  split
  · exact pk2_all (p := nmOk) (by decide +kernel) (by decide +kernel) _
  · split
    · rfl
    · split
      · exact pk2_all (p := nmOk) (by decide +kernel) (by decide +kernel) _
      · split
        · rfl
        · exact pk2_all (p := nmOk) (by decide +kernel) (by decide +kernel) _
theorem leaf_dep (x : Int) : (leafN x).dep = 0 := by
  unfold leafN
  split
  · rfl
  · split
    · rfl
    · split
      · rfl
      · split <;> rfl
theorem test_ok : ∀ (d : Nat) (x : Int), (testN d x).ok = true
  | 0, x => leaf_ok x
  | d + 1, x => by
    unfold testN
    split
    · split
      · exact test_ok d _
      · split
        · simp only [Tst.ok, test_ok d, Bool.and_self]
        · simp only [Tst.ok, test_ok d, Bool.and_self]
    · exact leaf_ok x
theorem test_dep : ∀ (d : Nat) (x : Int), (testN d x).dep ≤ d - 1
  | 0, x => by simp [testN, leaf_dep]
  | d + 1, x => by
    unfold testN
    split
    · rename_i h
      have h1 := test_dep d (drawnN x 1 / 4)
      have h2 := test_dep d (drawnN x 2 / 4)
      split
      · simp only [Tst.dep]; omega
      · split
        · simp only [Tst.dep]; omega
        · simp only [Tst.dep]; omega
    · simp [leaf_dep]
theorem words_ok (x : Int) : (wordsN x).all nmOk = true := by
  unfold wordsN
  split <;> split <;> split <;> decide +kernel
theorem marks_ok (x : Int) : (marksN x).all nmOk = true := by
  unfold marksN
  split <;> split <;> split <;> decide +kernel
theorem letter_ok (x : Int) : (letterN x).ok = true := by
  unfold Ltr.ok letterN
  simp only [words_ok, marks_ok, Bool.and_true]
  exact pk3_all (p := nmOk) (by decide +kernel) (by decide +kernel) (by decide +kernel) _

theorem enc_lay : ∀ t : Tst, t.ok = true → t.enc.canLay0 = true
  | .frm s, h => by simpa [Tst.enc, PyData.canLay0, PyData.canLayAll0, Tst.ok, nmOk] using ⟨by decide +kernel, h⟩
  | .word s, h => by simpa [Tst.enc, PyData.canLay0, PyData.canLayAll0, Tst.ok, nmOk] using ⟨by decide +kernel, h⟩
  | .over s, h => by simpa [Tst.enc, PyData.canLay0, PyData.canLayAll0] using (by decide +kernel : PyData.strOk "over" = true)
  | .marked s, h => by simpa [Tst.enc, PyData.canLay0, PyData.canLayAll0, Tst.ok, nmOk] using ⟨by decide +kernel, h⟩
  | .yes, h => by simpa [Tst.enc, PyData.canLay0, PyData.canLayAll0] using (by decide +kernel : PyData.strOk "yes" = true)
  | .not t, h => by simpa [Tst.enc, PyData.canLay0, PyData.canLayAll0] using ⟨by decide +kernel, enc_lay t h⟩
  | .both a b, h => by
    simp only [Tst.ok, Bool.and_eq_true] at h
    simpa [Tst.enc, PyData.canLay0, PyData.canLayAll0] using ⟨by decide +kernel, enc_lay a h.1, enc_lay b h.2⟩
  | .either a b, h => by
    simp only [Tst.ok, Bool.and_eq_true] at h
    simpa [Tst.enc, PyData.canLay0, PyData.canLayAll0] using ⟨by decide +kernel, enc_lay a h.1, enc_lay b h.2⟩
theorem enc_depth : ∀ t : Tst, t.enc.depth = t.dep + 1
  | .frm s => by simp [Tst.enc, PyData.depth, PyData.depthAll, Tst.dep]
  | .word s => by simp [Tst.enc, PyData.depth, PyData.depthAll, Tst.dep]
  | .over s => by simp [Tst.enc, PyData.depth, PyData.depthAll, Tst.dep]
  | .marked s => by simp [Tst.enc, PyData.depth, PyData.depthAll, Tst.dep]
  | .yes => by simp [Tst.enc, PyData.depth, PyData.depthAll, Tst.dep]
  | .not t => by simp [Tst.enc, PyData.depth, PyData.depthAll, Tst.dep, enc_depth t]
  | .both a b => by simp [Tst.enc, PyData.depth, PyData.depthAll, Tst.dep, enc_depth a, enc_depth b]
  | .either a b => by simp [Tst.enc, PyData.depth, PyData.depthAll, Tst.dep, enc_depth a, enc_depth b]
/-- lists and tuples of such -/
theorem shp_list {ds : List PyData} (h : ∀ d ∈ ds, shp d = true ∧ d.depth ≤ 60) : shp (.list ds) = true ∧ shp (.tuple ds) = true := by
  have h1 : PyData.canLayAll0 ds = true ∧ PyData.depthAll ds ≤ 60 := by
    induction ds with
    | nil => simp [PyData.canLayAll0, PyData.depthAll]
    | cons d ds ih =>
      obtain ⟨i1, i2⟩ := ih fun e he => h e (List.mem_cons_of_mem _ he)
      obtain ⟨j1, j2⟩ := h d List.mem_cons_self
      simp only [PyData.canLayAll0, PyData.depthAll, Bool.and_eq_true]
      exact ⟨⟨shp_lay j1, i1⟩, by omega⟩
  rw [shp_iff, shp_iff]
  simp only [PyData.canLay0, PyData.depth]
  exact ⟨⟨h1.1, by omega⟩, ⟨h1.1, by omega⟩⟩
theorem shp_enc (t : Tst) (h : t.ok = true) (hd : t.dep ≤ 50) : shp t.enc = true ∧ t.enc.depth ≤ 60 := by
  rw [shp_iff, enc_depth]
  exact ⟨⟨enc_lay t h, by omega⟩, by omega⟩
end Sv

namespace K12
open PySem L2 Evl Sv
def topS (i : Nat) : Stmt := PySem.Challenge.pw_sieverules_k12_whole_tests_reckoned.main.body.getD i (.Pass ⟨0, 0, 0, 0⟩)

abbrev s_holds_with : Stmt := topS 1
abbrev s_holds : Stmt := topS 2
abbrev s__law_cell_at : Stmt := topS 4
abbrev s__law_mixed : Stmt := topS 5
abbrev s__law_drawn : Stmt := topS 6
abbrev s__law_test : Stmt := topS 7
abbrev s__law_letter : Stmt := topS 8
abbrev s__law_words : Stmt := topS 9
abbrev s_law : Stmt := topS 10
theorem sc__law_cell_at : FnScope ["script", "k"] ["script", "k"] (defScope s__law_cell_at) := ⟨rfl, rfl, rfl, by decide +kernel, rfl, by decide +kernel, by decide +kernel⟩
theorem ok__law_cell_at {P : Program} {w : World} {K : Fg} {mg : Str → Option Value} {base : Heap} {k : Nat} {f : Addr} {fd : FuncData} (F : Fun K "_law_cell_at" "_law_cell_at" s__law_cell_at f fd) (B : BI mg) :
    FnOk P w K mg base CX0 (k + 1) f fd ["script", "k"] (spCell K) := by
  have nd := sc__law_cell_at.nd
  refine F.ok sc__law_cell_at (fun vs H Q E h => ?_) fun cdv A outer s H vs Q E hr h => ?_
  · obtain ⟨a, ns, k, rfl, _⟩ := h
    rfl
  · obtain ⟨a, ns, k, rfl, hS, h0, q⟩ := h
    refine ⟨_, pss_cons (ps_if (pt_cmpR op_lt (pv 1) (pe_callB call_lenA (by rfl) B.len bt_len (pa_cons (pv 0) pa_nil)) (nomark _)) (pss_one (ps_ret (pe_ix ix_list (pv 0) (pv 1) (fun _ _ => rfl)))) pss_nil) (pss_one (ps_ret pe_int)), ?_⟩
    refine ⟨_, rfl, _, rfl, _, _, rfl, .inl ⟨_, hS, rfl⟩, _, _, rfl, rfl, _, rfl, ?_⟩
    have hl : (ns.map V.int).length = ns.length := List.length_map ..
    refine ite2 (fun hc => ?_) (fun hc => ?_)
    · have hk : k < (ns.length : Int) := by rw [hl] at hc; exact of_decide_eq_true hc
      have hk' : k.toNat < ns.length := by omega
      have e : (ns.map V.int)[k.toNat]? = some (V.int (cellN ns k)) := by
        unfold cellN
        rw [List.getElem?_map, List.getElem?_eq_getElem hk', List.getD_eq_getElem?_getD, List.getElem?_eq_getElem hk']
        rfl
      refine ⟨_, rfl, _, rfl, a, _, k, _, rfl, rfl, hS, ?_, q H (Ex.refl _)⟩
      have := atI_nat e
      rw [Int.toNat_of_nonneg h0] at this
      exact this
    · have hk : ¬ k < (ns.length : Int) := fun z => hc (by rw [hl]; exact decide_eq_true z)
      have e : cellN ns k = 0 := by
        unfold cellN
        rw [List.getD_eq_getElem?_getD, List.getElem?_eq_none (by omega)]
        rfl
      rw [e] at q
      exact q H (Ex.refl _)
theorem sc__law_mixed : FnScope ["script", "k", "drawn"] ["script", "k"] (defScope s__law_mixed) := ⟨rfl, rfl, rfl, by decide +kernel, rfl, by decide +kernel, by decide +kernel⟩
theorem ok__law_mixed {P : Program} {w : World} {K : Fg} {mg : Str → Option Value} {base : Heap} {k : Nat} {f : Addr} {fd : FuncData} (F : Fun K "_law_mixed" "_law_mixed" s__law_mixed f fd) (c : CalS P w K mg base k "_law_cell_at" ["script", "k"] (spCell K)) :
    FnOk P w K mg base CX0 (k + 1) f fd ["script", "k"] (spMix K) := by
  have nd := sc__law_mixed.nd
  refine F.ok sc__law_mixed (fun vs H Q E h => ?_) fun cdv A outer s H vs Q E hr h => ?_
  · obtain ⟨a, ns, k, rfl, _⟩ := h
    rfl
  · obtain ⟨a, ns, k, rfl, hS, h0, q⟩ := h
    have d1 : 0 ≤ mixD ns k := Int.emod_nonneg _ (by decide)
    have d2 : mixD ns k < 2147483647 := Int.emod_lt_of_pos _ (by decide)
    refine ⟨_, pss_cons (ps_set (i := 2) nd rfl (Or.inl rfl) (pe_op op_mod (pe_op op_mul (pe_op op_add (pe_op op_add (pe_cal c hr (by rfl) (pa_cons (pv 0) (pa_cons (pv 1) pa_nil))) (pe_op op_mul pe_int (pv 1))) pe_int) pe_int) pe_int))
      (pss_one (ps_ret (pe_op op_mod (pe_op op_add (pe_op op_add (pe_op op_mul (pv 2) (pv 2)) (pe_op op_mul pe_int (pv 2))) (pv 1)) pe_int))), ?_⟩
    refine ⟨_, rfl, _, rfl, a, ns, k, rfl, hS, h0, fun H' e' => ?_⟩
    refine ⟨_, rfl, _, _, rfl, rfl, .inl (by decide), _, _, rfl, rfl, _, _, rfl, rfl, _, _, rfl, rfl, .inr (by decide), _, _, rfl, rfl, (by show (0 : Int) < 2147483647; decide), ?_⟩
    refine ⟨_, rfl, _, rfl, _, _, rfl, rfl, .inl ⟨by show -(2 ^ 64) < mixD ns k; omega, by show mixD ns k < 2 ^ 64; omega⟩, _, rfl, _, _, rfl, rfl, .inl (by decide), _, _, rfl, rfl, _, rfl, _, _, rfl, rfl, _, _, rfl, rfl, (by show (0 : Int) < 2147483629; decide), ?_⟩
    exact q H' e'

abbrev N_holds_with : List Str := ["test", "letter", "marks", "word"]
theorem sc_holds_with : FnScope N_holds_with ["test", "letter", "marks"] (defScope s_holds_with) := ⟨rfl, rfl, rfl, by decide +kernel, rfl, by decide +kernel, by decide +kernel⟩
theorem ok_holds_with {P : Program} {w : World} {K : Fg} {mg : Str → Option Value} {base : Heap} {k : Nat} {f : Addr} {fd : FuncData} {m_holds_with : List PyData → Option PyData} (F : Fun K "holds_with" "holds_with" s_holds_with f fd) (B : BI mg) (c_holds_with : Cal P w K mg base k "holds_with" ["test", "letter", "marks"] m_holds_with) :
    FnOk P w K mg base CX0 (k + 1) f fd ["test", "letter", "marks"] (spD K (runD 4 3 (fb_holds_with m_holds_with))) := by
  have nd := sc_holds_with.nd
  refine F.ok sc_holds_with (spD_len runD_len) fun cdv A outer s H vs Q E hr h => ⟨_, (pss_cons (ps_set (i := 3) nd rfl (Or.inl rfl) (pe_ix (ix_K K rfl) (pv 0) pe_int (fun _ _ => rfl)))
  (pss_cons (ps_if (pt_cmpR (op_eqK K rfl hr.units) (pv 3) pe_str (nomark _)) (pss_one (ps_ret pe_bl)) pss_nil)
  (pss_cons (ps_if (pt_cmpR (op_eqK K rfl hr.units) (pv 3) pe_str (nomark _)) (pss_one (ps_ret (pe_not (pe_cal c_holds_with hr (by rfl) (pa_cons (pe_ix (ix_K K rfl) (pv 0) pe_int (fun _ _ => rfl)) (pa_cons (pv 1) (pa_cons (pv 2) pa_nil))))))) pss_nil)
  (pss_cons (ps_if (pt_cmpR (op_eqK K rfl hr.units) (pv 3) pe_str (nomark _)) (pss_one (ps_ret (pe_and (pe_cal c_holds_with hr (by rfl) (pa_cons (pe_ix (ix_K K rfl) (pv 0) pe_int (fun _ _ => rfl)) (pa_cons (pv 1) (pa_cons (pv 2) pa_nil)))) (pe_one (pe_cal c_holds_with hr (by rfl) (pa_cons (pe_ix (ix_K K rfl) (pv 0) pe_int (fun _ _ => rfl)) (pa_cons (pv 1) (pa_cons (pv 2) pa_nil)))))))) pss_nil)
  (pss_cons (ps_if (pt_cmpR (op_eqK K rfl hr.units) (pv 3) pe_str (nomark _)) (pss_one (ps_ret (pe_or (pe_cal c_holds_with hr (by rfl) (pa_cons (pe_ix (ix_K K rfl) (pv 0) pe_int (fun _ _ => rfl)) (pa_cons (pv 1) (pa_cons (pv 2) pa_nil)))) (pe_one (pe_cal c_holds_with hr (by rfl) (pa_cons (pe_ix (ix_K K rfl) (pv 0) pe_int (fun _ _ => rfl)) (pa_cons (pv 1) (pa_cons (pv 2) pa_nil)))))))) pss_nil)
  (pss_cons (ps_if (pt_cmpR (op_eqK K rfl hr.units) (pv 3) pe_str (nomark _)) (pss_one (ps_ret (pe_cmpR (op_eqK K rfl hr.units) (pe_ix (ix_K K rfl) (pv 1) pe_int (fun _ _ => rfl)) (pe_ix (ix_K K rfl) (pv 0) pe_int (fun _ _ => rfl)) (nomark _)))) pss_nil)
  (pss_cons (ps_if (pt_cmpR (op_eqK K rfl hr.units) (pv 3) pe_str (nomark _)) (pss_one (ps_ret (pe_cmpR (op_inK K rfl (un65 hr)) (pe_ix (ix_K K rfl) (pv 0) pe_int (fun _ _ => rfl)) (pe_ix (ix_K K rfl) (pv 1) pe_int (fun _ _ => rfl)) (by rfl)))) pss_nil)
  (pss_cons (ps_if (pt_cmpR (op_eqK K rfl hr.units) (pv 3) pe_str (nomark _)) (pss_one (ps_ret (pe_cmpR op_gt0 (pe_ix (ix_K K rfl) (pv 1) pe_int (fun _ _ => rfl)) (pe_ix (ix_K K rfl) (pv 0) pe_int (fun _ _ => rfl)) (nomark _)))) pss_nil)
  (pss_one (ps_ret (pe_cmpR (op_inK K rfl (un65 hr)) (pe_ix (ix_K K rfl) (pv 0) pe_int (fun _ _ => rfl)) (pv 2) (by rfl)))))))))))), ?_⟩
  exact body_ok (N := N_holds_with) (fb := fb_holds_with m_holds_with)
    (es_seq (es_asg (i := 3) (ef_op e2_ix (eb_var 0) (ef_int).b))
  (es_seq (es_if (et_test (ef_op e2_eq (eb_var 3) (ef_str).b)) (es_ret ef_bl) es_next)
  (es_seq (es_if (et_test (ef_op e2_eq (eb_var 3) (ef_str).b)) (es_ret (ef_notV (ef_call (ea_cons (ef_op e2_ix (eb_var 0) (ef_int).b) (ea_cons (ef_var 1) (ea_cons (ef_var 2) ea_nil)))))) es_next)
  (es_seq (es_if (et_test (ef_op e2_eq (eb_var 3) (ef_str).b)) (es_ret (ef_andV (ef_call (ea_cons (ef_op e2_ix (eb_var 0) (ef_int).b) (ea_cons (ef_var 1) (ea_cons (ef_var 2) ea_nil)))) (ef_call (ea_cons (ef_op e2_ix (eb_var 0) (ef_int).b) (ea_cons (ef_var 1) (ea_cons (ef_var 2) ea_nil)))))) es_next)
  (es_seq (es_if (et_test (ef_op e2_eq (eb_var 3) (ef_str).b)) (es_ret (ef_orV (ef_call (ea_cons (ef_op e2_ix (eb_var 0) (ef_int).b) (ea_cons (ef_var 1) (ea_cons (ef_var 2) ea_nil)))) (ef_call (ea_cons (ef_op e2_ix (eb_var 0) (ef_int).b) (ea_cons (ef_var 1) (ea_cons (ef_var 2) ea_nil)))))) es_next)
  (es_seq (es_if (et_test (ef_op e2_eq (eb_var 3) (ef_str).b)) (es_ret (ef_op e2_eq (ef_op e2_ix (eb_var 1) (ef_int).b).b (ef_op e2_ix (eb_var 0) (ef_int).b).b)) es_next)
  (es_seq (es_if (et_test (ef_op e2_eq (eb_var 3) (ef_str).b)) (es_ret (ef_op e2_in (ef_op e2_ix (eb_var 0) (ef_int).b).b (ef_op e2_ix (eb_var 1) (ef_int).b).b)) es_next)
  (es_seq (es_if (et_test (ef_op e2_eq (eb_var 3) (ef_str).b)) (es_ret (ef_op e2_gt (ef_op e2_ix (eb_var 1) (ef_int).b).b (ef_op e2_ix (eb_var 0) (ef_int).b).b)) es_next)
  (es_ret (ef_op e2_in (ef_op e2_ix (eb_var 0) (ef_int).b).b (eb_var 2)))))))))))
    runD_ret h
abbrev N_holds : List Str := ["test", "letter"]
theorem sc_holds : FnScope N_holds ["test", "letter"] (defScope s_holds) := ⟨rfl, rfl, rfl, by decide +kernel, rfl, by decide +kernel, by decide +kernel⟩
theorem ok_holds {P : Program} {w : World} {K : Fg} {mg : Str → Option Value} {base : Heap} {k : Nat} {f : Addr} {fd : FuncData} {m_holds_with : List PyData → Option PyData} (F : Fun K "holds" "holds" s_holds f fd) (B : BI mg) (c_holds_with : Cal P w K mg base k "holds_with" ["test", "letter", "marks"] m_holds_with) :
    FnOk P w K mg base CX0 (k + 1) f fd ["test", "letter"] (spD K (runD 2 2 (fb_holds m_holds_with))) := by
  have nd := sc_holds.nd
  refine F.ok sc_holds (spD_len runD_len) fun cdv A outer s H vs Q E hr h => ⟨_, (pss_one (ps_ret (pe_cal c_holds_with hr (by rfl) (pa_cons (pv 0) (pa_cons (pv 1) (pa_cons (pe_ix (ix_K K rfl) (pv 1) pe_int (fun _ _ => rfl)) pa_nil)))))), ?_⟩
  exact body_ok (N := N_holds) (fb := fb_holds m_holds_with)
    (es_ret (ef_call (ea_cons (ef_var 0) (ea_cons (ef_var 1) (ea_cons (ef_op e2_ix (eb_var 1) (ef_int).b) ea_nil)))))
    runD_ret h
abbrev N__law_drawn : List Str := ["number", "k", "drawn"]
theorem sc__law_drawn : FnScope N__law_drawn ["number", "k"] (defScope s__law_drawn) := ⟨rfl, rfl, rfl, by decide +kernel, rfl, by decide +kernel, by decide +kernel⟩
theorem ok__law_drawn {P : Program} {w : World} {K : Fg} {mg : Str → Option Value} {base : Heap} {k : Nat} {f : Addr} {fd : FuncData} (F : Fun K "_law_drawn" "_law_drawn" s__law_drawn f fd) (B : BI mg) :
    FnOk P w K mg base CX0 (k + 1) f fd ["number", "k"] (spD K (runD 3 2 (fb__law_drawn))) := by
  have nd := sc__law_drawn.nd
  refine F.ok sc__law_drawn (spD_len runD_len) fun cdv A outer s H vs Q E hr h => ⟨_, (pss_cons (ps_set (i := 2) nd rfl (Or.inl rfl) (pe_op op_mod (pe_op op_mulA (pe_op (op_addK K rfl) (pe_op (op_addK K rfl) (pv 0) (pe_op op_mulA pe_int (pv 1))) pe_int) pe_int) pe_int))
  (pss_one (ps_ret (pe_op op_mod (pe_op (op_addK K rfl) (pe_op (op_addK K rfl) (pe_op op_mulA (pv 2) (pv 2)) (pe_op op_mulA pe_int (pv 2))) (pv 1)) pe_int)))), ?_⟩
  exact body_ok (N := N__law_drawn) (fb := fb__law_drawn)
    (es_seq (es_asg (i := 2) (ef_op e2_mod (ef_op e2_mulA (ef_op e2_add (ef_op e2_add (eb_var 0) (ef_op e2_mulA (ef_int).b (eb_var 1)).b).b (ef_int).b).b (ef_int).b).b (ef_int).b))
  (es_ret (ef_op e2_mod (ef_op e2_add (ef_op e2_add (ef_op e2_mulA (eb_var 2) (eb_var 2)).b (ef_op e2_mulA (ef_int).b (eb_var 2)).b).b (eb_var 1)).b (ef_int).b)))
    runD_ret h
abbrev N__law_test : List Str := ["number", "deep", "kind", "one", "other"]
theorem sc__law_test : FnScope N__law_test ["number", "deep"] (defScope s__law_test) := ⟨rfl, rfl, rfl, by decide +kernel, rfl, by decide +kernel, by decide +kernel⟩
theorem ok__law_test {P : Program} {w : World} {K : Fg} {mg : Str → Option Value} {base : Heap} {k : Nat} {f : Addr} {fd : FuncData} {m__law_test : List PyData → Option PyData} {m__law_drawn : List PyData → Option PyData} (F : Fun K "_law_test" "_law_test" s__law_test f fd) (B : BI mg) (c__law_test : Cal P w K mg base k "_law_test" ["number", "deep"] m__law_test) (c__law_drawn : Cal P w K mg base k "_law_drawn" ["number", "k"] m__law_drawn) :
    FnOk P w K mg base CX0 (k + 1) f fd ["number", "deep"] (spD K (runD 5 2 (fb__law_test m__law_test m__law_drawn))) := by
  have nd := sc__law_test.nd
  refine F.ok sc__law_test (spD_len runD_len) fun cdv A outer s H vs Q E hr h => ⟨_, (pss_cons (ps_set (i := 2) nd rfl (Or.inl rfl) (pe_op op_mod (pv 0) pe_int))
  (pss_cons (ps_if (PW.pt (pw_and (pt_cmpR op_gt0 (pv 1) pe_int (nomark _)) (pw_and1 (pt_cmpR op_gt0 (pv 2) pe_int (nomark _))))) (pss_cons (ps_set (i := 3) nd rfl (Or.inl rfl) (pe_cal c__law_test hr (by rfl) (pa_cons (pe_op op_fdiv (pe_cal c__law_drawn hr (by rfl) (pa_cons (pv 0) (pa_cons pe_int pa_nil))) pe_int) (pa_cons (pe_op op_sub (pv 1) pe_int) pa_nil))))
  (pss_cons (ps_set (i := 4) nd rfl (Or.inl rfl) (pe_cal c__law_test hr (by rfl) (pa_cons (pe_op op_fdiv (pe_cal c__law_drawn hr (by rfl) (pa_cons (pv 0) (pa_cons pe_int pa_nil))) pe_int) (pa_cons (pe_op op_sub (pv 1) pe_int) pa_nil))))
  (pss_one (ps_ret (pe_ix (ix_K K rfl) (pe_lst (pa_cons (pe_tup (pa_cons pe_str (pa_cons (pv 3) pa_nil))) (pa_cons (pe_tup (pa_cons pe_str (pa_cons (pv 3) (pa_cons (pv 4) pa_nil)))) (pa_cons (pe_tup (pa_cons pe_str (pa_cons (pv 3) (pa_cons (pv 4) pa_nil)))) pa_nil)))) (pe_op op_sub (pv 2) pe_int) (fun _ _ => rfl)))))) pss_nil)
  (pss_cons (ps_if (pt_cmpR (op_eqK K rfl hr.units) (pv 2) pe_int (nomark _)) (pss_one (ps_ret (pe_tup (pa_cons pe_str (pa_cons (pe_ix (ix_K K rfl) (pe_tup (pa_cons pe_str (pa_cons pe_str pa_nil))) (pe_op op_mod (pe_op op_fdiv (pv 0) pe_int) pe_int) (fun _ _ => rfl)) pa_nil))))) pss_nil)
  (pss_cons (ps_if (pt_cmpR (op_eqK K rfl hr.units) (pv 2) pe_int (nomark _)) (pss_one (ps_ret (pe_tup (pa_cons pe_str (pa_cons (pe_ix (ix_K K rfl) (pe_tup (pa_cons pe_int (pa_cons pe_int (pa_cons pe_int pa_nil)))) (pe_op op_mod (pe_op op_fdiv (pv 0) pe_int) pe_int) (fun _ _ => rfl)) pa_nil))))) pss_nil)
  (pss_cons (ps_if (pt_cmpR (op_eqK K rfl hr.units) (pv 2) pe_int (nomark _)) (pss_one (ps_ret (pe_tup (pa_cons pe_str (pa_cons (pe_ix (ix_K K rfl) (pe_tup (pa_cons pe_str (pa_cons pe_str pa_nil))) (pe_op op_mod (pe_op op_fdiv (pv 0) pe_int) pe_int) (fun _ _ => rfl)) pa_nil))))) pss_nil)
  (pss_cons (ps_if (pt_cmpR (op_eqK K rfl hr.units) (pv 2) pe_int (nomark _)) (pss_one (ps_ret (pe_tup (pa_cons pe_str pa_nil)))) pss_nil)
  (pss_one (ps_ret (pe_tup (pa_cons pe_str (pa_cons (pe_ix (ix_K K rfl) (pe_tup (pa_cons pe_str (pa_cons pe_str pa_nil))) (pe_op op_mod (pe_op op_fdiv (pv 0) pe_int) pe_int) (fun _ _ => rfl)) pa_nil))))))))))), ?_⟩
  exact body_ok (N := N__law_test) (fb := fb__law_test m__law_test m__law_drawn)
    (es_seq (es_asg (i := 2) (ef_op e2_mod (eb_var 0) (ef_int).b))
  (es_seq (es_if (et_and (et_test (ef_op e2_gt (eb_var 1) (ef_int).b)) (et_test (ef_op e2_gt (eb_var 2) (ef_int).b))) (es_seq (es_asg (i := 3) (ef_call (ea_cons (ef_op e2_fdiv (ef_call (ea_cons (ef_var 0) (ea_cons ef_int ea_nil))).b (ef_int).b) (ea_cons (ef_op e2_sub (eb_var 1) (ef_int).b) ea_nil))))
  (es_seq (es_asg (i := 4) (ef_call (ea_cons (ef_op e2_fdiv (ef_call (ea_cons (ef_var 0) (ea_cons ef_int ea_nil))).b (ef_int).b) (ea_cons (ef_op e2_sub (eb_var 1) (ef_int).b) ea_nil))))
  (es_ret (ef_op e2_ix (en_lst (ea_cons (ef_tup (ea_cons ef_str (ea_cons (ef_var 3) ea_nil))) (ea_cons (ef_tup (ea_cons ef_str (ea_cons (ef_var 3) (ea_cons (ef_var 4) ea_nil)))) (ea_cons (ef_tup (ea_cons ef_str (ea_cons (ef_var 3) (ea_cons (ef_var 4) ea_nil)))) ea_nil)))).ef.b (ef_op e2_sub (eb_var 2) (ef_int).b).b)))) es_next)
  (es_seq (es_if (et_test (ef_op e2_eq (eb_var 2) (ef_int).b)) (es_ret (ef_tup (ea_cons ef_str (ea_cons (ef_op e2_ix (ef_tup (ea_cons ef_str (ea_cons ef_str ea_nil))).b (ef_op e2_mod (ef_op e2_fdiv (eb_var 0) (ef_int).b).b (ef_int).b).b) ea_nil)))) es_next)
  (es_seq (es_if (et_test (ef_op e2_eq (eb_var 2) (ef_int).b)) (es_ret (ef_tup (ea_cons ef_str (ea_cons (ef_op e2_ix (ef_tup (ea_cons ef_int (ea_cons ef_int (ea_cons ef_int ea_nil)))).b (ef_op e2_mod (ef_op e2_fdiv (eb_var 0) (ef_int).b).b (ef_int).b).b) ea_nil)))) es_next)
  (es_seq (es_if (et_test (ef_op e2_eq (eb_var 2) (ef_int).b)) (es_ret (ef_tup (ea_cons ef_str (ea_cons (ef_op e2_ix (ef_tup (ea_cons ef_str (ea_cons ef_str ea_nil))).b (ef_op e2_mod (ef_op e2_fdiv (eb_var 0) (ef_int).b).b (ef_int).b).b) ea_nil)))) es_next)
  (es_seq (es_if (et_test (ef_op e2_eq (eb_var 2) (ef_int).b)) (es_ret (ef_tup (ea_cons ef_str ea_nil))) es_next)
  (es_ret (ef_tup (ea_cons ef_str (ea_cons (ef_op e2_ix (ef_tup (ea_cons ef_str (ea_cons ef_str ea_nil))).b (ef_op e2_mod (ef_op e2_fdiv (eb_var 0) (ef_int).b).b (ef_int).b).b) ea_nil))))))))))
    runD_ret h
abbrev N__law_letter : List Str := ["number", "sender", "words", "marks", "k", "word", "mark"]
theorem sc__law_letter : FnScope N__law_letter ["number"] (defScope s__law_letter) := ⟨rfl, rfl, rfl, by decide +kernel, rfl, by decide +kernel, by decide +kernel⟩
theorem ok__law_letter {P : Program} {w : World} {K : Fg} {mg : Str → Option Value} {base : Heap} {k : Nat} {f : Addr} {fd : FuncData} (F : Fun K "_law_letter" "_law_letter" s__law_letter f fd) (B : BI mg) :
    FnOk P w K mg base CX0 (k + 1) f fd ["number"] (spD K (runD 7 1 (fb__law_letter))) := by
  have nd := sc__law_letter.nd
  refine F.ok sc__law_letter (spD_len runD_len) fun cdv A outer s H vs Q E hr h => ⟨_, (pss_cons (ps_set (i := 1) nd rfl (Or.inl rfl) (pe_ix (ix_K K rfl) (pe_tup (pa_cons pe_str (pa_cons pe_str (pa_cons pe_str pa_nil)))) (pe_op op_mod (pv 0) pe_int) (fun _ _ => rfl)))
  (pss_cons (ps_set (i := 2) nd rfl (Or.inl rfl) (pe_callTy (call_tupleK K rfl) (by rfl) B.tuple bt_tuple (pa_cons (pe_lc (own := [("k", 4), ("word", 5)]) (g := (gTup K 2 (gCons (gName 4) (gCons (gName 5) gNil)))) rfl nd (pi_enumK K rfl (by rfl) B.enumerate (pa_cons (pe_tup (pa_cons pe_str (pa_cons pe_str (pa_cons pe_str pa_nil)))) pa_nil)) (blkOk_by (own := [("k", 4), ("word", 5)]) (N := N__law_letter) (sc := (defScope s__law_letter)) (by decide +kernel)) (fun _ _ _ _ _ => (pg_tup rfl (pgs_cons (pg_name (i := 4) nd rfl (Or.inl rfl)) (pgs_cons (pg_name (i := 5) nd rfl (Or.inl rfl)) pgs_nil)))) (fun _ _ _ _ _ => (pts_one (pt_cmpR (op_eqK K rfl hr.units) (pe_op op_mod (pe_op op_fdiv (pv 0) (pe_ix (ix_K K rfl) (pe_tup (pa_cons pe_int (pa_cons pe_int (pa_cons pe_int pa_nil)))) (pv 4) (fun _ _ => rfl))) pe_int) pe_int (nomark _)))) (fun _ _ _ _ _ => (pv 5))) pa_nil)))
  (pss_cons (ps_set (i := 3) nd rfl (Or.inl rfl) (pe_callTy (call_tupleK K rfl) (by rfl) B.tuple bt_tuple (pa_cons (pe_lc (own := [("k", 4), ("mark", 6)]) (g := (gTup K 2 (gCons (gName 4) (gCons (gName 6) gNil)))) rfl nd (pi_enumK K rfl (by rfl) B.enumerate (pa_cons (pe_tup (pa_cons pe_str (pa_cons pe_str (pa_cons pe_str pa_nil)))) pa_nil)) (blkOk_by (own := [("k", 4), ("mark", 6)]) (N := N__law_letter) (sc := (defScope s__law_letter)) (by decide +kernel)) (fun _ _ _ _ _ => (pg_tup rfl (pgs_cons (pg_name (i := 4) nd rfl (Or.inl rfl)) (pgs_cons (pg_name (i := 6) nd rfl (Or.inl rfl)) pgs_nil)))) (fun _ _ _ _ _ => (pts_one (pt_cmpR (op_eqK K rfl hr.units) (pe_op op_mod (pe_op op_fdiv (pv 0) (pe_ix (ix_K K rfl) (pe_tup (pa_cons pe_int (pa_cons pe_int (pa_cons pe_int pa_nil)))) (pv 4) (fun _ _ => rfl))) pe_int) pe_int (nomark _)))) (fun _ _ _ _ _ => (pv 6))) pa_nil)))
  (pss_one (ps_ret (pe_tup (pa_cons (pv 1) (pa_cons (pv 2) (pa_cons (pe_ix (ix_K K rfl) (pe_tup (pa_cons pe_int (pa_cons pe_int (pa_cons pe_int (pa_cons pe_int (pa_cons pe_int (pa_cons pe_int pa_nil))))))) (pe_op op_mod (pe_op op_fdiv (pv 0) pe_int) pe_int) (fun _ _ => rfl)) (pa_cons (pv 3) pa_nil)))))))))), ?_⟩
  exact body_ok (N := N__law_letter) (fb := fb__law_letter)
    (es_seq (es_asg (i := 1) (ef_op e2_ix (ef_tup (ea_cons ef_str (ea_cons ef_str (ea_cons ef_str ea_nil)))).b (ef_op e2_mod (eb_var 0) (ef_int).b).b))
  (es_seq (es_asg (i := 2) (ef_cb1 e1_tuple (ef_lc (ei_enum (ef_tup (ea_cons ef_str (ea_cons ef_str (ea_cons ef_str ea_nil))))).b (eg_tup (egs_cons (eg_name 4) (egs_cons (eg_name 5) egs_nil))) (et_test (ef_op e2_eq (ef_op e2_mod (ef_op e2_fdiv (eb_var 0) (ef_op e2_ix (ef_tup (ea_cons ef_int (ea_cons ef_int (ea_cons ef_int ea_nil)))).b (eb_var 4)).b).b (ef_int).b).b (ef_int).b)) (ef_var 5)).ef.b))
  (es_seq (es_asg (i := 3) (ef_cb1 e1_tuple (ef_lc (ei_enum (ef_tup (ea_cons ef_str (ea_cons ef_str (ea_cons ef_str ea_nil))))).b (eg_tup (egs_cons (eg_name 4) (egs_cons (eg_name 6) egs_nil))) (et_test (ef_op e2_eq (ef_op e2_mod (ef_op e2_fdiv (eb_var 0) (ef_op e2_ix (ef_tup (ea_cons ef_int (ea_cons ef_int (ea_cons ef_int ea_nil)))).b (eb_var 4)).b).b (ef_int).b).b (ef_int).b)) (ef_var 6)).ef.b))
  (es_ret (ef_tup (ea_cons (ef_var 1) (ea_cons (ef_var 2) (ea_cons (ef_op e2_ix (ef_tup (ea_cons ef_int (ea_cons ef_int (ea_cons ef_int (ea_cons ef_int (ea_cons ef_int (ea_cons ef_int ea_nil))))))).b (ef_op e2_mod (ef_op e2_fdiv (eb_var 0) (ef_int).b).b (ef_int).b).b) (ea_cons (ef_var 3) ea_nil)))))))))
    runD_ret h
abbrev N__law_words : List Str := ["test", "found", "part"]
def fb__law_words (m__law_words : List PyData → Option PyData) : Rho → Option Res := fun ρ =>
  seqR (ifR ((bnd2 (bnd2 (gb 0 ρ) (some (.int 0)) ixD) (((bnd2 (some (.str "not")) ((bnd2 (some (.str "both")) ((bnd2 (some (.str "either")) (some []) consD)) consD)) consD)).bind tupD) inD).bind asB) (seqR (asgR 1 ρ ((some []).bind lstD)) fun ρ =>
  seqR (forR (((gb 0 ρ).bind fun d => bnd2 (partI (some (.int 1))) (some none) (slD d)).bind walkD) tg1 [2] (fun ρ =>
  asgR 1 ρ (bnd2 (gb 1 ρ) (((bnd2 (gv 2 ρ) (some []) consD)).bind m__law_words) addD)) ρ) fun ρ =>
  retR (gv 1 ρ)) (some (.nx ρ))) fun ρ =>
  retR (((bnd2 (bnd2 (gb 0 ρ) (some (.int 0)) ixD) (some []) consD)).bind lstD)
theorem sc__law_words : FnScope N__law_words ["test"] (defScope s__law_words) := ⟨rfl, rfl, rfl, by decide +kernel, rfl, by decide +kernel, by decide +kernel⟩
theorem ok__law_words {P : Program} {w : World} {K : Fg} {mg : Str → Option Value} {base : Heap} {k : Nat} {f : Addr} {fd : FuncData} {m__law_words : List PyData → Option PyData} (F : Fun K "_law_words" "_law_words" s__law_words f fd) (B : BI mg) (c__law_words : Cal P w K mg base k "_law_words" ["test"] m__law_words) :
    FnOk P w K mg base CX0 (k + 1) f fd ["test"] (spD K (runD 3 1 (fb__law_words m__law_words))) := by
  have nd := sc__law_words.nd
  refine F.ok sc__law_words (spD_len runD_len) fun cdv A outer s H vs Q E hr h => ⟨_, (pss_cons (ps_if (pt_cmpR (op_inK K rfl (un65 hr)) (pe_ix (ix_K K rfl) (pv 0) pe_int (fun _ _ => rfl)) (pe_tup (pa_cons pe_str (pa_cons pe_str (pa_cons pe_str pa_nil)))) (by rfl)) (pss_cons (ps_set (i := 1) nd rfl (Or.inl rfl) (pe_lst pa_nil))
  (pss_cons (ps_for PassesOwn.never rfl (pi_seqK K rfl (pe_slice (sl_K K rfl) (pv 0) (po_some pe_int) po_none)) (pg_name (i := 2) nd rfl (Or.inl rfl))
  (pss_one (ps_set (i := 1) nd rfl (Or.inl rfl) (pe_op (op_addK K rfl) (pv 1) (pe_cal c__law_words hr (by rfl) (pa_cons (pv 2) pa_nil))))))
  (pss_one (ps_ret (pv 1))))) pss_nil)
  (pss_one (ps_ret (pe_lst (pa_cons (pe_ix (ix_K K rfl) (pv 0) pe_int (fun _ _ => rfl)) pa_nil))))), ?_⟩
  exact body_ok (N := N__law_words) (fb := fb__law_words m__law_words)
    (es_seq (es_if (et_test (ef_op e2_in (ef_op e2_ix (eb_var 0) (ef_int).b).b (ef_tup (ea_cons ef_str (ea_cons ef_str (ea_cons ef_str ea_nil)))).b)) (es_seq (es_asg (i := 1) (en_lst ea_nil).ef)
  (es_seq (es_for (ei_seq (ef_sl (eb_var 0) (eo_some ef_int) eo_none)) (eg_name 2)
  (es_asg (i := 1) (ef_op e2_add (eb_var 1) (ef_call (ea_cons (ef_var 2) ea_nil)).b)))
  (es_ret (ef_var 1)))) es_next)
  (es_ret (en_lst (ea_cons (ef_op e2_ix (eb_var 0) (ef_int).b) ea_nil)).ef))
    runD_ret h
abbrev N_law : List Str := ["script", "one", "two", "letter", "here", "there", "plain", "turned", "words", "other", "at", "word", "new", "test"]
def fb_law (m__law_test : List PyData → Option PyData) (m__law_letter : List PyData → Option PyData) (m_holds : List PyData → Option PyData) (m__law_words : List PyData → Option PyData) : Rho → Option Res := fun ρ =>
  seqR (asgR 1 ρ (((bnd2 (bnd2 (scrOf 0 ρ) ((some (.int 0)).bind asI) mixR) ((bnd2 (some (.int 2)) (some []) consD)) consD)).bind m__law_test)) fun ρ =>
  seqR (asgR 2 ρ (((bnd2 (bnd2 (scrOf 0 ρ) ((some (.int 1)).bind asI) mixR) ((bnd2 (some (.int 2)) (some []) consD)) consD)).bind m__law_test)) fun ρ =>
  seqR (asgR 3 ρ (((bnd2 (bnd2 (scrOf 0 ρ) ((some (.int 2)).bind asI) mixR) (some []) consD)).bind m__law_letter)) fun ρ =>
  seqR (asgR 4 ρ (((bnd2 (gv 1 ρ) ((bnd2 (gv 3 ρ) (some []) consD)) consD)).bind m_holds)) fun ρ =>
  seqR (asgR 5 ρ (((bnd2 (gv 2 ρ) ((bnd2 (gv 3 ρ) (some []) consD)) consD)).bind m_holds)) fun ρ =>
  seqR (ifR (orB ((((gb 4 ρ).bind (isiD "bool")).bind asB).map not) ((bnd2 (((bnd2 (((bnd2 (some (.str "not")) ((bnd2 (gv 1 ρ) (some []) consD)) consD)).bind tupD) ((bnd2 (gv 3 ρ) (some []) consD)) consD)).bind m_holds) (notV (gv 4 ρ)) neD).bind asB)) (retR (some (.bool false))) (some (.nx ρ))) fun ρ =>
  seqR (ifR (orB ((bnd2 (((bnd2 (((bnd2 (some (.str "both")) ((bnd2 (gv 1 ρ) ((bnd2 (gv 2 ρ) (some []) consD)) consD)) consD)).bind tupD) ((bnd2 (gv 3 ρ) (some []) consD)) consD)).bind m_holds) (andV (gv 4 ρ) (gv 5 ρ)) neD).bind asB) ((bnd2 (((bnd2 (((bnd2 (some (.str "both")) ((bnd2 (gv 2 ρ) ((bnd2 (gv 1 ρ) (some []) consD)) consD)) consD)).bind tupD) ((bnd2 (gv 3 ρ) (some []) consD)) consD)).bind m_holds) (andV (gv 4 ρ) (gv 5 ρ)) neD).bind asB)) (retR (some (.bool false))) (some (.nx ρ))) fun ρ =>
  seqR (ifR (orB ((bnd2 (((bnd2 (((bnd2 (some (.str "either")) ((bnd2 (gv 1 ρ) ((bnd2 (gv 2 ρ) (some []) consD)) consD)) consD)).bind tupD) ((bnd2 (gv 3 ρ) (some []) consD)) consD)).bind m_holds) (orV (gv 4 ρ) (gv 5 ρ)) neD).bind asB) ((bnd2 (((bnd2 (((bnd2 (some (.str "either")) ((bnd2 (gv 2 ρ) ((bnd2 (gv 1 ρ) (some []) consD)) consD)) consD)).bind tupD) ((bnd2 (gv 3 ρ) (some []) consD)) consD)).bind m_holds) (orV (gv 4 ρ) (gv 5 ρ)) neD).bind asB)) (retR (some (.bool false))) (some (.nx ρ))) fun ρ =>
  seqR (asgR 6 ρ (bnd2 (compR ((((bnd2 (gv 1 ρ) ((bnd2 (gv 2 ρ) (some []) consD)) consD)).bind tupD).bind walkD) tg1 [13] (fun ρ => (bnd2 (bnd2 (gb 13 ρ) (some (.int 0)) ixD) (((bnd2 (some (.str "not")) ((bnd2 (some (.str "both")) ((bnd2 (some (.str "either")) (some []) consD)) consD)) consD)).bind tupD) inD).bind asB) (fun ρ => gv 13 ρ) [13] ρ) ((some []).bind lstD) eqD)) fun ρ =>
  seqR (asgR 7 ρ (((bnd2 (some (.str "either")) ((bnd2 (((bnd2 (some (.str "not")) ((bnd2 (gv 1 ρ) (some []) consD)) consD)).bind tupD) ((bnd2 (((bnd2 (some (.str "not")) ((bnd2 (gv 2 ρ) (some []) consD)) consD)).bind tupD) (some []) consD)) consD)) consD)).bind tupD)) fun ρ =>
  seqR (ifR (andB ((gv 6 ρ).bind asB) ((bnd2 (((bnd2 (gv 7 ρ) ((bnd2 (gv 3 ρ) (some []) consD)) consD)).bind m_holds) (((bnd2 (((bnd2 (some (.str "not")) ((bnd2 (((bnd2 (some (.str "both")) ((bnd2 (gv 1 ρ) ((bnd2 (gv 2 ρ) (some []) consD)) consD)) consD)).bind tupD) (some []) consD)) consD)).bind tupD) ((bnd2 (gv 3 ρ) (some []) consD)) consD)).bind m_holds) neD).bind asB)) (retR (some (.bool false))) (some (.nx ρ))) fun ρ =>
  seqR (ifR (orB ((bnd2 (((bnd2 (((bnd2 (some (.str "yes")) (some []) consD)).bind tupD) ((bnd2 (gv 3 ρ) (some []) consD)) consD)).bind m_holds) (some (.bool true)) isNotD).bind asB) ((bnd2 (((bnd2 (((bnd2 (some (.str "both")) ((bnd2 (gv 1 ρ) ((bnd2 (((bnd2 (some (.str "yes")) (some []) consD)).bind tupD) (some []) consD)) consD)) consD)).bind tupD) ((bnd2 (gv 3 ρ) (some []) consD)) consD)).bind m_holds) (gb 4 ρ) neD).bind asB)) (retR (some (.bool false))) (some (.nx ρ))) fun ρ =>
  seqR (ifR (andB ((gv 6 ρ).bind asB) ((bnd2 (((bnd2 (((bnd2 (some (.str "either")) ((bnd2 (gv 1 ρ) ((bnd2 (((bnd2 (some (.str "not")) ((bnd2 (gv 1 ρ) (some []) consD)) consD)).bind tupD) (some []) consD)) consD)) consD)).bind tupD) ((bnd2 (gv 3 ρ) (some []) consD)) consD)).bind m_holds) (some (.bool true)) isNotD).bind asB)) (retR (some (.bool false))) (some (.nx ρ))) fun ρ =>
  seqR (asgR 8 ρ (((bnd2 (gv 1 ρ) (some []) consD)).bind m__law_words)) fun ρ =>
  seqR (asgR 9 ρ (((bnd2 (bnd2 (scrOf 0 ρ) ((some (.int 3)).bind asI) mixR) (some []) consD)).bind m__law_letter)) fun ρ =>
  seqR (forR ((((bnd2 (some (.str "from")) ((bnd2 (some (.str "word")) ((bnd2 (some (.str "over")) ((bnd2 (some (.str "marked")) (some []) consD)) consD)) consD)) consD)).bind tupD).bind enumD) (tgT 2 (tgC tg1 (tgC tg1 tgN))) [10, 11] (fun ρ =>
  seqR (asgR 12 ρ (bnd2 (bnd2 ((gb 3 ρ).bind fun d => bnd2 (some none) (partI (gv 10 ρ)) (slD d)) (((bnd2 (bnd2 (gb 9 ρ) (gb 10 ρ) ixD) (some []) consD)).bind tupD) addD) ((gb 3 ρ).bind fun d => bnd2 (partI (bnd2 (gb 10 ρ) (some (.int 1)) addD)) (some none) (slD d)) addD)) fun ρ =>
  ifR (andB ((bnd2 (gb 11 ρ) (gb 8 ρ) notInD).bind asB) ((bnd2 (((bnd2 (gv 1 ρ) ((bnd2 (gv 12 ρ) (some []) consD)) consD)).bind m_holds) (gb 4 ρ) neD).bind asB)) (retR (some (.bool false))) (some (.nx ρ))) ρ) fun ρ =>
  retR (some (.bool true))
theorem sc_law : FnScope N_law ["script"] (defScope s_law) := ⟨rfl, rfl, rfl, by decide +kernel, rfl, by decide +kernel, by decide +kernel⟩
theorem ok_law {P : Program} {w : World} {K : Fg} {mg : Str → Option Value} {base : Heap} {k : Nat} {f : Addr} {fd : FuncData} {m__law_test : List PyData → Option PyData} {m__law_letter : List PyData → Option PyData} {m_holds : List PyData → Option PyData} {m__law_words : List PyData → Option PyData} (F : Fun K "law" "law" s_law f fd) (B : BI mg) (c__law_mixed : CalS P w K mg base k "_law_mixed" ["script", "k"] (spMix K)) (c__law_test : Cal P w K mg base k "_law_test" ["number", "deep"] m__law_test) (c__law_letter : Cal P w K mg base k "_law_letter" ["number"] m__law_letter) (c_holds : Cal P w K mg base k "holds" ["test", "letter"] m_holds) (c__law_words : Cal P w K mg base k "_law_words" ["test"] m__law_words)
    (hf : ∀ ns : List Int, ns.length ≤ 63 → retD (fb_law m__law_test m__law_letter m_holds m__law_words (scrR 14 ns)) = some (.bool true)) :
    FnOk P w K mg base CX0 (k + 1) f fd ["script"] (spLaw K) := by
  have nd := sc_law.nd
  refine F.ok sc_law (fun vs H Q E h => ?_) fun cdv A outer s H vs Q E hr h => ⟨_, (pss_cons (ps_set (i := 1) nd rfl (Or.inl rfl) (pe_cal c__law_test hr (by rfl) (pa_cons (pe_cal c__law_mixed hr (by rfl) (pa_cons (pv 0) (pa_cons pe_int pa_nil))) (pa_cons pe_int pa_nil))))
  (pss_cons (ps_set (i := 2) nd rfl (Or.inl rfl) (pe_cal c__law_test hr (by rfl) (pa_cons (pe_cal c__law_mixed hr (by rfl) (pa_cons (pv 0) (pa_cons pe_int pa_nil))) (pa_cons pe_int pa_nil))))
  (pss_cons (ps_set (i := 3) nd rfl (Or.inl rfl) (pe_cal c__law_letter hr (by rfl) (pa_cons (pe_cal c__law_mixed hr (by rfl) (pa_cons (pv 0) (pa_cons pe_int pa_nil))) pa_nil)))
  (pss_cons (ps_set (i := 4) nd rfl (Or.inl rfl) (pe_cal c_holds hr (by rfl) (pa_cons (pv 1) (pa_cons (pv 3) pa_nil))))
  (pss_cons (ps_set (i := 5) nd rfl (Or.inl rfl) (pe_cal c_holds hr (by rfl) (pa_cons (pv 2) (pa_cons (pv 3) pa_nil))))
  (pss_cons (ps_if (PW.pt (pw_or (pt_not (pt_val (pe_callB (call_isK K rfl) (by rfl) B.isinstance bt_isinstance (pa_cons (pv 4) (pa_cons (pe_bltn (v := .ty "bool") (by rfl) B.bool bt_bool rfl) pa_nil))))) (pw_or1 (pt_cmpR (op_neK K rfl hr.units) (pe_cal c_holds hr (by rfl) (pa_cons (pe_tup (pa_cons pe_str (pa_cons (pv 1) pa_nil))) (pa_cons (pv 3) pa_nil))) (pe_not (pv 4)) (nomark _))))) (pss_one (ps_ret pe_bl)) pss_nil)
  (pss_cons (ps_if (PW.pt (pw_or (pt_cmpR (op_neK K rfl hr.units) (pe_cal c_holds hr (by rfl) (pa_cons (pe_tup (pa_cons pe_str (pa_cons (pv 1) (pa_cons (pv 2) pa_nil)))) (pa_cons (pv 3) pa_nil))) (pe_and (pv 4) (pe_one (pv 5))) (nomark _)) (pw_or1 (pt_cmpR (op_neK K rfl hr.units) (pe_cal c_holds hr (by rfl) (pa_cons (pe_tup (pa_cons pe_str (pa_cons (pv 2) (pa_cons (pv 1) pa_nil)))) (pa_cons (pv 3) pa_nil))) (pe_and (pv 4) (pe_one (pv 5))) (nomark _))))) (pss_one (ps_ret pe_bl)) pss_nil)
  (pss_cons (ps_if (PW.pt (pw_or (pt_cmpR (op_neK K rfl hr.units) (pe_cal c_holds hr (by rfl) (pa_cons (pe_tup (pa_cons pe_str (pa_cons (pv 1) (pa_cons (pv 2) pa_nil)))) (pa_cons (pv 3) pa_nil))) (pe_or (pv 4) (pe_one (pv 5))) (nomark _)) (pw_or1 (pt_cmpR (op_neK K rfl hr.units) (pe_cal c_holds hr (by rfl) (pa_cons (pe_tup (pa_cons pe_str (pa_cons (pv 2) (pa_cons (pv 1) pa_nil)))) (pa_cons (pv 3) pa_nil))) (pe_or (pv 4) (pe_one (pv 5))) (nomark _))))) (pss_one (ps_ret pe_bl)) pss_nil)
  (pss_cons (ps_set (i := 6) nd rfl (Or.inl rfl) (pe_cmpR (op_eqK K rfl hr.units) (pe_lc (own := [("test", 13)]) (g := (gName 13)) rfl nd (pi_seqK K rfl (pe_tup (pa_cons (pv 1) (pa_cons (pv 2) pa_nil)))) (blkOk_by (own := [("test", 13)]) (N := N_law) (sc := (defScope s_law)) (by decide +kernel)) (fun _ _ _ _ _ => (pg_name (i := 13) nd rfl (Or.inl rfl))) (fun _ _ _ _ _ => (pts_one (pt_cmpR (op_inK K rfl (un65 hr)) (pe_ix (ix_K K rfl) (pv 13) pe_int (fun _ _ => rfl)) (pe_tup (pa_cons pe_str (pa_cons pe_str (pa_cons pe_str pa_nil)))) (by rfl)))) (fun _ _ _ _ _ => (pv 13))) (pe_lst pa_nil) (nomark _)))
  (pss_cons (ps_set (i := 7) nd rfl (Or.inl rfl) (pe_tup (pa_cons pe_str (pa_cons (pe_tup (pa_cons pe_str (pa_cons (pv 1) pa_nil))) (pa_cons (pe_tup (pa_cons pe_str (pa_cons (pv 2) pa_nil))) pa_nil)))))
  (pss_cons (ps_if (PW.pt (pw_and (pt_val (pv 6)) (pw_and1 (pt_cmpR (op_neK K rfl hr.units) (pe_cal c_holds hr (by rfl) (pa_cons (pv 7) (pa_cons (pv 3) pa_nil))) (pe_cal c_holds hr (by rfl) (pa_cons (pe_tup (pa_cons pe_str (pa_cons (pe_tup (pa_cons pe_str (pa_cons (pv 1) (pa_cons (pv 2) pa_nil)))) pa_nil))) (pa_cons (pv 3) pa_nil))) (nomark _))))) (pss_one (ps_ret pe_bl)) pss_nil)
  (pss_cons (ps_if (PW.pt (pw_or (pt_cmpR op_isNotA (pe_cal c_holds hr (by rfl) (pa_cons (pe_tup (pa_cons pe_str pa_nil)) (pa_cons (pv 3) pa_nil))) pe_bl (nomark _)) (pw_or1 (pt_cmpR (op_neK K rfl hr.units) (pe_cal c_holds hr (by rfl) (pa_cons (pe_tup (pa_cons pe_str (pa_cons (pv 1) (pa_cons (pe_tup (pa_cons pe_str pa_nil)) pa_nil)))) (pa_cons (pv 3) pa_nil))) (pv 4) (nomark _))))) (pss_one (ps_ret pe_bl)) pss_nil)
  (pss_cons (ps_if (PW.pt (pw_and (pt_val (pv 6)) (pw_and1 (pt_cmpR op_isNotA (pe_cal c_holds hr (by rfl) (pa_cons (pe_tup (pa_cons pe_str (pa_cons (pv 1) (pa_cons (pe_tup (pa_cons pe_str (pa_cons (pv 1) pa_nil))) pa_nil)))) (pa_cons (pv 3) pa_nil))) pe_bl (nomark _))))) (pss_one (ps_ret pe_bl)) pss_nil)
  (pss_cons (ps_set (i := 8) nd rfl (Or.inl rfl) (pe_cal c__law_words hr (by rfl) (pa_cons (pv 1) pa_nil)))
  (pss_cons (ps_set (i := 9) nd rfl (Or.inl rfl) (pe_cal c__law_letter hr (by rfl) (pa_cons (pe_cal c__law_mixed hr (by rfl) (pa_cons (pv 0) (pa_cons pe_int pa_nil))) pa_nil)))
  (pss_cons (ps_for PassesOwn.never rfl (pi_enumK K rfl (by rfl) B.enumerate (pa_cons (pe_tup (pa_cons pe_str (pa_cons pe_str (pa_cons pe_str (pa_cons pe_str pa_nil))))) pa_nil)) (pg_tup rfl (pgs_cons (pg_name (i := 10) nd rfl (Or.inl rfl)) (pgs_cons (pg_name (i := 11) nd rfl (Or.inl rfl)) pgs_nil)))
  (pss_cons (ps_set (i := 12) nd rfl (Or.inl rfl) (pe_op (op_addK K rfl) (pe_op (op_addK K rfl) (pe_slice (sl_K K rfl) (pv 3) po_none (po_some (pv 10))) (pe_tup (pa_cons (pe_ix (ix_K K rfl) (pv 9) (pv 10) (fun _ _ => rfl)) pa_nil))) (pe_slice (sl_K K rfl) (pv 3) (po_some (pe_op (op_addK K rfl) (pv 10) pe_int)) po_none)))
  (pss_one (ps_if (PW.pt (pw_and (pt_cmpR (op_notInK K rfl (un65 hr)) (pv 11) (pv 8) (by rfl)) (pw_and1 (pt_cmpR (op_neK K rfl hr.units) (pe_cal c_holds hr (by rfl) (pa_cons (pv 1) (pa_cons (pv 12) pa_nil))) (pv 4) (nomark _))))) (pss_one (ps_ret pe_bl)) pss_nil))))
  (pss_one (ps_ret pe_bl)))))))))))))))))), ?_⟩
  · obtain ⟨a, ns, rfl, _⟩ := h
    rfl
  · exact law_ok (N := N_law) (fb := fb_law m__law_test m__law_letter m_holds m__law_words)
      (es_seq (es_asg (i := 1) (ef_call (ea_cons (ef_mix (i := 0) ef_int) (ea_cons ef_int ea_nil))))
  (es_seq (es_asg (i := 2) (ef_call (ea_cons (ef_mix (i := 0) ef_int) (ea_cons ef_int ea_nil))))
  (es_seq (es_asg (i := 3) (ef_call (ea_cons (ef_mix (i := 0) ef_int) ea_nil)))
  (es_seq (es_asg (i := 4) (ef_call (ea_cons (ef_var 1) (ea_cons (ef_var 3) ea_nil))))
  (es_seq (es_asg (i := 5) (ef_call (ea_cons (ef_var 2) (ea_cons (ef_var 3) ea_nil))))
  (es_seq (es_if (et_or (et_not (et_B (ef_isi (eb_var 4)))) (et_test (ef_op e2_ne (ef_call (ea_cons (ef_tup (ea_cons ef_str (ea_cons (ef_var 1) ea_nil))) (ea_cons (ef_var 3) ea_nil))).b (ef_notV (ef_var 4)).b))) (es_ret ef_bl) es_next)
  (es_seq (es_if (et_or (et_test (ef_op e2_ne (ef_call (ea_cons (ef_tup (ea_cons ef_str (ea_cons (ef_var 1) (ea_cons (ef_var 2) ea_nil)))) (ea_cons (ef_var 3) ea_nil))).b (ef_andV (ef_var 4) (ef_var 5)).b)) (et_test (ef_op e2_ne (ef_call (ea_cons (ef_tup (ea_cons ef_str (ea_cons (ef_var 2) (ea_cons (ef_var 1) ea_nil)))) (ea_cons (ef_var 3) ea_nil))).b (ef_andV (ef_var 4) (ef_var 5)).b))) (es_ret ef_bl) es_next)
  (es_seq (es_if (et_or (et_test (ef_op e2_ne (ef_call (ea_cons (ef_tup (ea_cons ef_str (ea_cons (ef_var 1) (ea_cons (ef_var 2) ea_nil)))) (ea_cons (ef_var 3) ea_nil))).b (ef_orV (ef_var 4) (ef_var 5)).b)) (et_test (ef_op e2_ne (ef_call (ea_cons (ef_tup (ea_cons ef_str (ea_cons (ef_var 2) (ea_cons (ef_var 1) ea_nil)))) (ea_cons (ef_var 3) ea_nil))).b (ef_orV (ef_var 4) (ef_var 5)).b))) (es_ret ef_bl) es_next)
  (es_seq (es_asg (i := 6) (ef_op e2_eq (ef_lc (eib_seq (ef_tup (ea_cons (ef_var 1) (ea_cons (ef_var 2) ea_nil))).b) (eg_name 13) (et_test (ef_op e2_in (ef_op e2_ix (eb_var 13) (ef_int).b).b (ef_tup (ea_cons ef_str (ea_cons ef_str (ea_cons ef_str ea_nil)))).b)) (ef_var 13)).ef.b (en_lst ea_nil).ef.b))
  (es_seq (es_asg (i := 7) (ef_tup (ea_cons ef_str (ea_cons (ef_tup (ea_cons ef_str (ea_cons (ef_var 1) ea_nil))) (ea_cons (ef_tup (ea_cons ef_str (ea_cons (ef_var 2) ea_nil))) ea_nil)))))
  (es_seq (es_if (et_and (et_B (ef_var 6)) (et_test (ef_op e2_ne (ef_call (ea_cons (ef_var 7) (ea_cons (ef_var 3) ea_nil))).b (ef_call (ea_cons (ef_tup (ea_cons ef_str (ea_cons (ef_tup (ea_cons ef_str (ea_cons (ef_var 1) (ea_cons (ef_var 2) ea_nil)))) ea_nil))) (ea_cons (ef_var 3) ea_nil))).b))) (es_ret ef_bl) es_next)
  (es_seq (es_if (et_or (et_test (ef_op e2_isNot (ef_call (ea_cons (ef_tup (ea_cons ef_str ea_nil)) (ea_cons (ef_var 3) ea_nil))).b (ef_bl).b)) (et_test (ef_op e2_ne (ef_call (ea_cons (ef_tup (ea_cons ef_str (ea_cons (ef_var 1) (ea_cons (ef_tup (ea_cons ef_str ea_nil)) ea_nil)))) (ea_cons (ef_var 3) ea_nil))).b (eb_var 4)))) (es_ret ef_bl) es_next)
  (es_seq (es_if (et_and (et_B (ef_var 6)) (et_test (ef_op e2_isNot (ef_call (ea_cons (ef_tup (ea_cons ef_str (ea_cons (ef_var 1) (ea_cons (ef_tup (ea_cons ef_str (ea_cons (ef_var 1) ea_nil))) ea_nil)))) (ea_cons (ef_var 3) ea_nil))).b (ef_bl).b))) (es_ret ef_bl) es_next)
  (es_seq (es_asg (i := 8) (ef_call (ea_cons (ef_var 1) ea_nil)))
  (es_seq (es_asg (i := 9) (ef_call (ea_cons (ef_mix (i := 0) ef_int) ea_nil)))
  (es_seq (es_for (ei_enum (ef_tup (ea_cons ef_str (ea_cons ef_str (ea_cons ef_str (ea_cons ef_str ea_nil)))))) (eg_tup (egs_cons (eg_name 10) (egs_cons (eg_name 11) egs_nil)))
  (es_seq (es_asg (i := 12) (ef_op e2_add (ef_op e2_add (ef_sl (eb_var 3) eo_none (eo_some (ef_var 10))).b (ef_tup (ea_cons (ef_op e2_ix (eb_var 9) (eb_var 10)) ea_nil)).b).b (ef_sl (eb_var 3) (eo_some (ef_op e2_add (eb_var 10) (ef_int).b)) eo_none).b))
  (es_if (et_and (et_test (ef_op e2_notIn (eb_var 11) (eb_var 8))) (et_test (ef_op e2_ne (ef_call (ea_cons (ef_var 1) (ea_cons (ef_var 12) ea_nil))).b (eb_var 4)))) (es_ret ef_bl) es_next)))
  (es_ret ef_bl)))))))))))))))))
      hf h
end K12

namespace K12
open PySem L2 Evl Sv

def kinds : Tst → List Str
  | .frm _ => ["from"]
  | .word _ => ["word"]
  | .over _ => ["over"]
  | .marked _ => ["marked"]
  | .yes => ["yes"]
  | .not t => kinds t
  | .both a b => kinds a ++ kinds b
  | .either a b => kinds a ++ kinds b
def m_words : Nat → List PyData → Option PyData := itm fun m => runD 3 1 (fb__law_words m)
theorem m_words_succ (n : Nat) (ds : List PyData) : m_words (n + 1) ds = runD 3 1 (fb__law_words (m_words n)) ds := rfl
theorem kinds_ok : ∀ t : Tst, (kinds t).all nmOk = true
  | .frm _ => show ([("from" : Str)] : List Str).all nmOk = true by decide +kernel
  | .word _ => show ([("word" : Str)] : List Str).all nmOk = true by decide +kernel
  | .over _ => show ([("over" : Str)] : List Str).all nmOk = true by decide +kernel
  | .marked _ => show ([("marked" : Str)] : List Str).all nmOk = true by decide +kernel
  | .yes => by decide +kernel
  | .not t => kinds_ok t
  | .both a b => by simp [kinds, kinds_ok a, kinds_ok b]
  | .either a b => by simp [kinds, kinds_ok a, kinds_ok b]
def Tst.head : Tst → Str
  | .frm _ => "from"
  | .word _ => "word"
  | .over _ => "over"
  | .marked _ => "marked"
  | .yes => "yes"
  | .not _ => "not"
  | .both _ _ => "both"
  | .either _ _ => "either"
theorem cut1_2 {α : Type} (a b : α) : cutL [a, b] (some 1) none = [b] := rfl
theorem cut1_3 {α : Type} (a b c : α) : cutL [a, b, c] (some 1) none = [b, c] := rfl
theorem in3 (s : Str) (h : nmOk s = true) : inD (.str s) (.tuple [.str "not", .str "both", .str "either"]) = some (.bool (decide (s ∈ (["not", "both", "either"] : List Str)))) := inD_t s ["not", "both", "either"] (by decide +kernel) h
theorem kinds_len : ∀ t : Tst, (kinds t).length ≤ 2 ^ t.dep
  | .frm _ => by simp [kinds, Tst.dep]
  | .word _ => by simp [kinds, Tst.dep]
  | .over _ => by simp [kinds, Tst.dep]
  | .marked _ => by simp [kinds, Tst.dep]
  | .yes => by simp [kinds, Tst.dep]
  | .not t => by
    have := kinds_len t
    simp only [kinds, Tst.dep, Nat.pow_succ]; omega
  | .both a b => by
    have h1 := kinds_len a
    have h2 := kinds_len b
    have e1 : 2 ^ a.dep ≤ 2 ^ (max a.dep b.dep) := Nat.pow_le_pow_right (by decide) (by omega)
    have e2 : 2 ^ b.dep ≤ 2 ^ (max a.dep b.dep) := Nat.pow_le_pow_right (by decide) (by omega)
    simp only [kinds, Tst.dep, Nat.pow_succ, List.length_append]; omega
  | .either a b => by
    have h1 := kinds_len a
    have h2 := kinds_len b
    have e1 : 2 ^ a.dep ≤ 2 ^ (max a.dep b.dep) := Nat.pow_le_pow_right (by decide) (by omega)
    have e2 : 2 ^ b.dep ≤ 2 ^ (max a.dep b.dep) := Nat.pow_le_pow_right (by decide) (by omega)
    simp only [kinds, Tst.dep, Nat.pow_succ, List.length_append]; omega
theorem lst_add (a b : List PyData) (h : a.length + b.length ≤ 1000) : addD (.list a) (.list b) = some (.list (a ++ b)) := by
  simp [addD, lenOk_ h]
theorem nm_not : nmOk "not" = true := by decide +kernel
theorem nm_both : nmOk "both" = true := by decide +kernel
theorem nm_either : nmOk "either" = true := by decide +kernel
theorem words_leaf (n : Nat) (w : Str) (r : List PyData) (h : nmOk w = true) (hn : w ∉ (["not", "both", "either"] : List Str)) : m_words (n + 1) [.tuple (.str w :: r)] = some (.list [.str w]) := by
  rw [m_words_succ]
  have e := in3 w h
  simp [runD, fb__law_words, startR, gb, gv, bnd2_ss, ixD_t, atI_0, consD_, tupD_, lstD_, e, hn, asB_b, ifR_f, ifR_t, seqR_nx, retR_s, seqR_ret, retD_s]
theorem words_eq : ∀ (n : Nat) (t : Tst), t.dep ≤ n → n ≤ 8 → m_words (n + 1) [t.enc] = some (.list ((kinds t).map .str))
  | n, .frm s, _, _ => words_leaf n _ _ (by decide +kernel) (by decide +kernel)
  | n, .word s, _, _ => words_leaf n _ _ (by decide +kernel) (by decide +kernel)
  | n, .over s, _, _ => words_leaf n _ _ (by decide +kernel) (by decide +kernel)
  | n, .marked s, _, _ => words_leaf n _ _ (by decide +kernel) (by decide +kernel)
  | n, .yes, _, _ => words_leaf n _ _ (by decide +kernel) (by decide +kernel)
  | 0, .not t, h, _ => by simp [Tst.dep] at h
  | 0, .both a b, h, _ => by simp [Tst.dep] at h
  | 0, .either a b, h, _ => by simp [Tst.dep] at h
  | n + 1, .not t, h, h8 => by
    have e := in3 "not" nm_not
    have i := words_eq n t (by simp [Tst.dep] at h; omega) (by omega)
    have l := kinds_len t
    have p : 2 ^ t.dep ≤ 2 ^ 8 := Nat.pow_le_pow_right (by decide) (by simp [Tst.dep] at h; omega)
    have la : addD (.list []) (.list ((kinds t).map .str)) = some (.list ((kinds t).map .str)) := lst_add [] _ (by simp; omega)
    rw [m_words_succ]
    simp [runD, fb__law_words, startR, gb, gv, bnd2_ss, Tst.enc, ixD_t, atI_0, consD_, tupD_, lstD_, e, asB_b, ifR_f, ifR_t, seqR_nx, asgR_s, forR, slD, cut1_2, partI, asI_i, walkD, forD, setsR, tg1, i, la, retR_s, seqR_ret, retD_s, kinds]
  | n + 1, .both a b, h, h8 => by
    have e := in3 "both" nm_both
    have i1 := words_eq n a (by simp [Tst.dep] at h; omega) (by omega)
    have i2 := words_eq n b (by simp [Tst.dep] at h; omega) (by omega)
    have l1 := kinds_len a
    have l2 := kinds_len b
    have p1 : 2 ^ a.dep ≤ 2 ^ 8 := Nat.pow_le_pow_right (by decide) (by simp [Tst.dep] at h; omega)
    have p2 : 2 ^ b.dep ≤ 2 ^ 8 := Nat.pow_le_pow_right (by decide) (by simp [Tst.dep] at h; omega)
    have la : addD (.list []) (.list ((kinds a).map .str)) = some (.list ((kinds a).map .str)) := lst_add [] _ (by simp; omega)
    have lb : addD (.list ((kinds a).map .str)) (.list ((kinds b).map .str)) = some (.list ((kinds a).map .str ++ (kinds b).map .str)) := lst_add _ _ (by simp; omega)
    rw [m_words_succ]
    simp [runD, fb__law_words, startR, gb, gv, bnd2_ss, Tst.enc, ixD_t, atI_0, consD_, tupD_, lstD_, e, asB_b, ifR_f, ifR_t, seqR_nx, asgR_s, forR, slD, cut1_3, partI, asI_i, walkD, forD, setsR, tg1, i1, i2, la, lb, retR_s, seqR_ret, retD_s, kinds]
  | n + 1, .either a b, h, h8 => by
    have e := in3 "either" nm_either
    have i1 := words_eq n a (by simp [Tst.dep] at h; omega) (by omega)
    have i2 := words_eq n b (by simp [Tst.dep] at h; omega) (by omega)
    have l1 := kinds_len a
    have l2 := kinds_len b
    have p1 : 2 ^ a.dep ≤ 2 ^ 8 := Nat.pow_le_pow_right (by decide) (by simp [Tst.dep] at h; omega)
    have p2 : 2 ^ b.dep ≤ 2 ^ 8 := Nat.pow_le_pow_right (by decide) (by simp [Tst.dep] at h; omega)
    have la : addD (.list []) (.list ((kinds a).map .str)) = some (.list ((kinds a).map .str)) := lst_add [] _ (by simp; omega)
    have lb : addD (.list ((kinds a).map .str)) (.list ((kinds b).map .str)) = some (.list ((kinds a).map .str ++ (kinds b).map .str)) := lst_add _ _ (by simp; omega)
    rw [m_words_succ]
    simp [runD, fb__law_words, startR, gb, gv, bnd2_ss, Tst.enc, ixD_t, atI_0, consD_, tupD_, lstD_, e, asB_b, ifR_f, ifR_t, seqR_nx, asgR_s, forR, slD, cut1_3, partI, asI_i, walkD, forD, setsR, tg1, i1, i2, la, lb, retR_s, seqR_ret, retD_s, kinds]

theorem hold_sender (s : Str) : ∀ (t : Tst) (l : Ltr) (ms : List Str), ("from" : Str) ∉ kinds t → hold t { l with sender := s } ms = hold t l ms
  | .frm _, l, ms, h => by simp [kinds] at h
  | .word _, l, ms, h => rfl
  | .over _, l, ms, h => rfl
  | .marked _, l, ms, h => rfl
  | .yes, l, ms, h => rfl
  | .not t, l, ms, h => by simp only [hold, hold_sender s t l ms h]
  | .both a b, l, ms, h => by
    simp only [kinds, List.mem_append, not_or] at h
    simp only [hold, hold_sender s a l ms h.1, hold_sender s b l ms h.2]
  | .either a b, l, ms, h => by
    simp only [kinds, List.mem_append, not_or] at h
    simp only [hold, hold_sender s a l ms h.1, hold_sender s b l ms h.2]
theorem hold_words (s : List Str) : ∀ (t : Tst) (l : Ltr) (ms : List Str), ("word" : Str) ∉ kinds t → hold t { l with words := s } ms = hold t l ms
  | .word _, l, ms, h => by simp [kinds] at h
  | .frm _, l, ms, h => rfl
  | .over _, l, ms, h => rfl
  | .marked _, l, ms, h => rfl
  | .yes, l, ms, h => rfl
  | .not t, l, ms, h => by simp only [hold, hold_words s t l ms h]
  | .both a b, l, ms, h => by
    simp only [kinds, List.mem_append, not_or] at h
    simp only [hold, hold_words s a l ms h.1, hold_words s b l ms h.2]
  | .either a b, l, ms, h => by
    simp only [kinds, List.mem_append, not_or] at h
    simp only [hold, hold_words s a l ms h.1, hold_words s b l ms h.2]
theorem hold_size (s : Int) : ∀ (t : Tst) (l : Ltr) (ms : List Str), ("over" : Str) ∉ kinds t → hold t { l with size := s } ms = hold t l ms
  | .over _, l, ms, h => by simp [kinds] at h
  | .word _, l, ms, h => rfl
  | .frm _, l, ms, h => rfl
  | .marked _, l, ms, h => rfl
  | .yes, l, ms, h => rfl
  | .not t, l, ms, h => by simp only [hold, hold_size s t l ms h]
  | .both a b, l, ms, h => by
    simp only [kinds, List.mem_append, not_or] at h
    simp only [hold, hold_size s a l ms h.1, hold_size s b l ms h.2]
  | .either a b, l, ms, h => by
    simp only [kinds, List.mem_append, not_or] at h
    simp only [hold, hold_size s a l ms h.1, hold_size s b l ms h.2]
theorem hold_marks (l l' : Ltr) (hs : l'.sender = l.sender) (hw : l'.words = l.words) (hz : l'.size = l.size) : ∀ (t : Tst) (ms ms' : List Str), ("marked" : Str) ∉ kinds t → hold t l' ms' = hold t l ms
  | .marked _, ms, ms', h => by simp [kinds] at h
  | .frm _, ms, ms', h => by simp only [hold, hs]
  | .word _, ms, ms', h => by simp only [hold, hw]
  | .over _, ms, ms', h => by simp only [hold, hz]
  | .yes, ms, ms', h => rfl
  | .not t, ms, ms', h => by simp only [hold, hold_marks l l' hs hw hz t ms ms' h]
  | .both a b, ms, ms', h => by
    simp only [kinds, List.mem_append, not_or] at h
    simp only [hold, hold_marks l l' hs hw hz a ms ms' h.1, hold_marks l l' hs hw hz b ms ms' h.2]
  | .either a b, ms, ms', h => by
    simp only [kinds, List.mem_append, not_or] at h
    simp only [hold, hold_marks l l' hs hw hz a ms ms' h.1, hold_marks l l' hs hw hz b ms ms' h.2]

theorem eq_nil (ds : List PyData) (h : ∀ d ∈ ds, shp d = true ∧ d.depth ≤ 60) : eqD (.list ds) (.list []) = some (.bool ds.isEmpty) := by
  have h1 := (shp_list h).1
  have h2 : shp (.list []) = true := by decide +kernel
  unfold eqD eqB
  simp only [h1, h2, Bool.and_self, if_true, Option.map_some]
  cases ds <;> simp [PyData.eqv, PyData.eqvAll]
theorem head_enc (t : Tst) : ∃ r, t.enc = .tuple (.str (Tst.head t) :: r) := by cases t <;> exact ⟨_, rfl⟩
theorem head_ok : ∀ t : Tst, nmOk (Tst.head t) = true
  | .frm _ => show nmOk "from" = true by decide +kernel
  | .word _ => show nmOk "word" = true by decide +kernel
  | .over _ => show nmOk "over" = true by decide +kernel
  | .marked _ => show nmOk "marked" = true by decide +kernel
  | .yes => show nmOk "yes" = true by decide +kernel
  | .not _ => nm_not
  | .both _ _ => nm_both
  | .either _ _ => nm_either
theorem cut4 {α : Type} (a b c d : α) : cutL [a, b, c, d] none (some 0) = [] ∧ cutL [a, b, c, d] none (some 1) = [a] ∧ cutL [a, b, c, d] none (some 2) = [a, b] ∧ cutL [a, b, c, d] none (some 3) = [a, b, c] ∧
    cutL [a, b, c, d] (some 1) none = [b, c, d] ∧ cutL [a, b, c, d] (some 2) none = [c, d] ∧ cutL [a, b, c, d] (some 3) none = [d] ∧ cutL [a, b, c, d] (some 4) none = [] := ⟨rfl, rfl, rfl, rfl, rfl, rfl, rfl, rfl⟩
theorem tup_add (a b : List PyData) (h : a.length + b.length ≤ 1000) : addD (.tuple a) (.tuple b) = some (.tuple (a ++ b)) := by
  simp [addD, lenOk_ h]
theorem isi_bool (b : Bool) : isiD "bool" (.bool b) = some (.bool true) := by
  have : kitB "bool" "bool" = some true := by decide +kernel
  simp [isiD, tyName, this]
theorem notIn_l (s : Str) (ss : List Str) (h : ss.all nmOk = true) (hs : nmOk s = true) : notInD (.str s) (.list (ss.map .str)) = some (.bool (!decide (s ∈ ss))) := by
  unfold notInD inB
  simp only [itemsOf, shp_str, hs, shp_lstrs ss h, any_str, Bool.and_self, if_true, Option.map_some]
/-- a turn of the last loop -/
theorem turn_off {w : Str} {ks : List Str} {M : Option PyData} {p : Bool} (hw : nmOk w = true) (hk : ks.all nmOk = true) (hm : ∃ c, M = some (.bool c) ∧ (w ∉ ks → c = p)) :
    andB ((bnd2 (some (.str w)) (some (.list (ks.map .str))) notInD).bind asB) ((bnd2 M (some (.bool p)) neD).bind asB) = some false := by
  obtain ⟨c, rfl, hc⟩ := hm
  rw [bnd2_ss, notIn_l w ks hk hw, bnd2_ss, neD_bb]
  by_cases h : w ∈ ks
  · simp [h, asB, andB]
  · simp [h, asB, andB, hc h]
theorem law_true (ns : List Int) : retD (fb_law (m_test 2) m_letter (m_holds 6) (m_words 4) (scrR 14 ns)) = some (.bool true) := by
  have hA : m_test 2 [.int (mixN ns 0), .int 2] = _ := test_eq 1 2 (mixN ns 0) (by omega)
  have hB : m_test 2 [.int (mixN ns 1), .int 2] = _ := test_eq 1 2 (mixN ns 1) (by omega)
  have hL := letter_eq (mixN ns 2)
  have hL' := letter_eq (mixN ns 3)
  have okA := test_ok 2 (mixN ns 0)
  have okB := test_ok 2 (mixN ns 1)
  have dA := test_dep 2 (mixN ns 0)
  have dB := test_dep 2 (mixN ns 1)
  have okL := letter_ok (mixN ns 2)
  have okL' := letter_ok (mixN ns 3)
  have p0 : mixR ns 0 = some (.int (mixN ns 0)) := by simp [mixR]
  have p1 : mixR ns 1 = some (.int (mixN ns 1)) := by simp [mixR]
  have p2 : mixR ns 2 = some (.int (mixN ns 2)) := by simp [mixR]
  have p3 : mixR ns 3 = some (.int (mixN ns 3)) := by simp [mixR]
  generalize testN 2 (mixN ns 0) = A at *
  generalize testN 2 (mixN ns 1) = B at *
  generalize letterN (mixN ns 2) = L at *
  generalize letterN (mixN ns 3) = L' at *
  have hW : m_words 4 [A.enc] = _ := words_eq 3 A (by omega) (by omega)
  have hh : ∀ t : Tst, t.dep ≤ 5 → t.ok = true → m_holds 6 [t.enc, L.enc] = some (.bool (hold t L L.marks)) := fun t h1 h2 => holds_eq 5 t L h1 h2 okL
  have e1 := hh A (by omega) okA
  have e2 := hh B (by omega) okB
  have eN := hh (.not A) (by simp [Tst.dep]; omega) okA
  have eAB := hh (.both A B) (by simp [Tst.dep]; omega) (by simp [Tst.ok, okA, okB])
  have eBA := hh (.both B A) (by simp [Tst.dep]; omega) (by simp [Tst.ok, okA, okB])
  have oAB := hh (.either A B) (by simp [Tst.dep]; omega) (by simp [Tst.ok, okA, okB])
  have oBA := hh (.either B A) (by simp [Tst.dep]; omega) (by simp [Tst.ok, okA, okB])
  have eT := hh (.either (.not A) (.not B)) (by simp [Tst.dep]; omega) (by simp [Tst.ok, okA, okB])
  have eNB := hh (.not (.both A B)) (by simp [Tst.dep]; omega) (by simp [Tst.ok, okA, okB])
  have eY := hh .yes (by simp [Tst.dep]) rfl
  have eAY := hh (.both A .yes) (by simp [Tst.dep]; omega) (by simp [Tst.ok, okA])
  have eAN := hh (.either A (.not A)) (by simp [Tst.dep]; omega) (by simp [Tst.ok, okA])
  have kok := kinds_ok A
  have hnew : ∀ l : Ltr, l.ok = true → m_holds 6 [A.enc, l.enc] = some (.bool (hold A l l.marks)) := fun l h => holds_eq 5 A l (by omega) okA h
  simp only [Ltr.ok, Bool.and_eq_true] at okL okL'
  have n0 := hnew { L with sender := L'.sender } (by simp only [Ltr.ok, Bool.and_eq_true]; exact ⟨⟨okL'.1.1, okL.1.2⟩, okL.2⟩)
  have n1 := hnew { L with words := L'.words } (by simp only [Ltr.ok, Bool.and_eq_true]; exact ⟨⟨okL.1.1, okL'.1.2⟩, okL.2⟩)
  have n2 := hnew { L with size := L'.size } (by simp only [Ltr.ok, Bool.and_eq_true]; exact okL)
  have n3 := hnew { L with marks := L'.marks } (by simp only [Ltr.ok, Bool.and_eq_true]; exact ⟨okL.1, okL'.2⟩)
  have s0 : ∃ c, m_holds 6 [A.enc, .tuple [.str L'.sender, strsD L.words, .int L.size, strsD L.marks]] = some (.bool c) ∧ (("from" : Str) ∉ kinds A → c = hold A L L.marks) := ⟨_, n0, fun h => hold_sender _ A L L.marks h⟩
  have s1 : ∃ c, m_holds 6 [A.enc, .tuple [.str L.sender, strsD L'.words, .int L.size, strsD L.marks]] = some (.bool c) ∧ (("word" : Str) ∉ kinds A → c = hold A L L.marks) := ⟨_, n1, fun h => hold_words _ A L L.marks h⟩
  have s2 : ∃ c, m_holds 6 [A.enc, .tuple [.str L.sender, strsD L.words, .int L'.size, strsD L.marks]] = some (.bool c) ∧ (("over" : Str) ∉ kinds A → c = hold A L L.marks) := ⟨_, n2, fun h => hold_size _ A L L.marks h⟩
  have s3 : ∃ c, m_holds 6 [A.enc, .tuple [.str L.sender, strsD L.words, .int L.size, strsD L'.marks]] = some (.bool c) ∧ (("marked" : Str) ∉ kinds A → c = hold A L L.marks) := ⟨_, n3, fun h => hold_marks L { L with marks := L'.marks } rfl rfl rfl A _ _ h⟩
  obtain ⟨rA, hrA⟩ := head_enc A
  obtain ⟨rB, hrB⟩ := head_enc B
  have hkA := head_ok A
  have hkB := head_ok B
  have shA := shp_enc A okA (by omega)
  have shB := shp_enc B okB (by omega)
  have lEnc : L.enc = .tuple [.str L.sender, strsD L.words, .int L.size, strsD L.marks] := rfl
  have lEnc' : L'.enc = .tuple [.str L'.sender, strsD L'.words, .int L'.size, strsD L'.marks] := rfl
  simp only [Tst.enc, hold] at eN eAB eBA oAB oBA eT eNB eY eAY eAN
  generalize hold A L L.marks = p at *
  generalize hold B L L.marks = q at *
  generalize ea : A.enc = a at *
  generalize eb : B.enc = b at *
  refine congrArg retD (show _ = some (Res.ret (.bool true)) from ?_)
  refine seq_step (ρ := [.scr ns, .val a, .no, .no, .no, .no, .no, .no, .no, .no, .no, .no, .no, .no]) ?_ ?_
  · simp [scrR, scrOf, asI_i, bnd2_ss, p0, consD_, asgR_s]; rw [hA]; rfl
  refine seq_step (ρ := [.scr ns, .val a, .val b, .no, .no, .no, .no, .no, .no, .no, .no, .no, .no, .no]) ?_ ?_
  · simp [scrOf, asI_i, bnd2_ss, p1, consD_]; rw [hB]; rfl
  refine seq_step (ρ := [.scr ns, .val a, .val b, .val L.enc, .no, .no, .no, .no, .no, .no, .no, .no, .no, .no]) ?_ ?_
  · simp [scrOf, asI_i, bnd2_ss, p2, consD_, hL, asgR_s]
  refine seq_step (ρ := [.scr ns, .val a, .val b, .val L.enc, .val (.bool p), .no, .no, .no, .no, .no, .no, .no, .no, .no]) ?_ ?_
  · simp [gv, bnd2_ss, consD_, e1, asgR_s]
  refine seq_step (ρ := [.scr ns, .val a, .val b, .val L.enc, .val (.bool p), .val (.bool q), .no, .no, .no, .no, .no, .no, .no, .no]) ?_ ?_
  · simp [gv, bnd2_ss, consD_, e2, asgR_s]
  refine seq_step (ρ := [.scr ns, .val a, .val b, .val L.enc, .val (.bool p), .val (.bool q), .no, .no, .no, .no, .no, .no, .no, .no]) ?_ ?_
  · simp [gv, gb, bnd2_ss, consD_, tupD_, eN, notV, asB_b, neD_bb, isi_bool, orB, ifR_f]
  refine seq_step (ρ := [.scr ns, .val a, .val b, .val L.enc, .val (.bool p), .val (.bool q), .no, .no, .no, .no, .no, .no, .no, .no]) ?_ ?_
  · cases p <;> cases q <;> simp [gv, gb, bnd2_ss, consD_, tupD_, eAB, eBA, asB_b, neD_bb, orB, andV, ifR_f]
  refine seq_step (ρ := [.scr ns, .val a, .val b, .val L.enc, .val (.bool p), .val (.bool q), .no, .no, .no, .no, .no, .no, .no, .no]) ?_ ?_
  · cases p <;> cases q <;> simp [gv, gb, bnd2_ss, consD_, tupD_, oAB, oBA, asB_b, neD_bb, orB, orV, ifR_f]
  obtain ⟨c, hc⟩ : ∃ c, asgR 6 [.scr ns, .val a, .val b, .val L.enc, .val (.bool p), .val (.bool q), .no, .no, .no, .no, .no, .no, .no, .no] (bnd2 (compR ((((bnd2 (some a) ((bnd2 (some b) (some []) consD)) consD)).bind tupD).bind walkD) tg1 [13] (fun ρ => (bnd2 (bnd2 (gb 13 ρ) (some (.int 0)) ixD) (((bnd2 (some (.str "not")) ((bnd2 (some (.str "both")) ((bnd2 (some (.str "either")) (some []) consD)) consD)) consD)).bind tupD) inD).bind asB) (fun ρ => gv 13 ρ) [13] [.scr ns, .val a, .val b, .val L.enc, .val (.bool p), .val (.bool q), .no, .no, .no, .no, .no, .no, .no, .no]) ((some []).bind lstD) eqD)
      = some (.nx [.scr ns, .val a, .val b, .val L.enc, .val (.bool p), .val (.bool q), .val (.bool c), .no, .no, .no, .no, .no, .no, .no]) := by
    have iA : ixD a (.int 0) = some (.str (Tst.head A)) := by rw [hrA]; exact atI_0 _ _
    have iB : ixD b (.int 0) = some (.str (Tst.head B)) := by rw [hrB]; exact atI_0 _ _
    have jA := in3 (Tst.head A) hkA
    have jB := in3 (Tst.head B) hkB
    have q0 := eq_nil [] (by simp)
    have q1 := eq_nil [a] (by simpa using shA)
    have q2 := eq_nil [b] (by simpa using shB)
    have q3 := eq_nil [a, b] (by simpa using ⟨shA, shB⟩)
    generalize decide (Tst.head A ∈ (["not", "both", "either"] : List Str)) = u at *
    generalize decide (Tst.head B ∈ (["not", "both", "either"] : List Str)) = v at *
    cases u <;> cases v <;> simp [compR, compD, bnd2_ss, consD_, tupD_, lstD_, walkD, lenOk_, tg1, wipeR, setsR, gb, gv, iA, iB, jA, jB, asB_b, q0, q1, q2, q3, asgR_s]
  refine seq_step hc ?_
  refine seq_step (ρ := [.scr ns, .val a, .val b, .val L.enc, .val (.bool p), .val (.bool q), .val (.bool c), .val (.tuple [.str "either", .tuple [.str "not", a], .tuple [.str "not", b]]), .no, .no, .no, .no, .no, .no]) ?_ ?_
  · simp [gv, bnd2_ss, consD_, tupD_, asgR_s]
  refine seq_step (ρ := [.scr ns, .val a, .val b, .val L.enc, .val (.bool p), .val (.bool q), .val (.bool c), .val (.tuple [.str "either", .tuple [.str "not", a], .tuple [.str "not", b]]), .no, .no, .no, .no, .no, .no]) ?_ ?_
  · cases c <;> cases p <;> cases q <;> simp [gv, bnd2_ss, consD_, tupD_, eT, eNB, asB_b, neD_bb, andB, ifR_f]
  refine seq_step (ρ := [.scr ns, .val a, .val b, .val L.enc, .val (.bool p), .val (.bool q), .val (.bool c), .val (.tuple [.str "either", .tuple [.str "not", a], .tuple [.str "not", b]]), .no, .no, .no, .no, .no, .no]) ?_ ?_
  · cases p <;> simp [gv, gb, bnd2_ss, consD_, tupD_, eY, eAY, asB_b, neD_bb, orB, ifR_f, isNotD, isB]
  refine seq_step (ρ := [.scr ns, .val a, .val b, .val L.enc, .val (.bool p), .val (.bool q), .val (.bool c), .val (.tuple [.str "either", .tuple [.str "not", a], .tuple [.str "not", b]]), .no, .no, .no, .no, .no, .no]) ?_ ?_
  · cases c <;> cases p <;> simp [gv, gb, bnd2_ss, consD_, tupD_, eAN, asB_b, andB, ifR_f, isNotD, isB]
  refine seq_step (ρ := [.scr ns, .val a, .val b, .val L.enc, .val (.bool p), .val (.bool q), .val (.bool c), .val (.tuple [.str "either", .tuple [.str "not", a], .tuple [.str "not", b]]), .val (.list ((kinds A).map .str)), .no, .no, .no, .no, .no]) ?_ ?_
  · simp [gv, bnd2_ss, consD_, hW, asgR_s]
  refine seq_step (ρ := [.scr ns, .val a, .val b, .val L.enc, .val (.bool p), .val (.bool q), .val (.bool c), .val (.tuple [.str "either", .tuple [.str "not", a], .tuple [.str "not", b]]), .val (.list ((kinds A).map .str)), .val L'.enc, .no, .no, .no, .no]) ?_ ?_
  · simp [scrOf, asI_i, bnd2_ss, p3, consD_, hL', asgR_s]
  have t0 := turn_off (w := "from") (by decide +kernel) kok s0
  have t1 := turn_off (w := "word") (by decide +kernel) kok s1
  have t2 := turn_off (w := "over") (by decide +kernel) kok s2
  have t3 := turn_off (w := "marked") (by decide +kernel) kok s3
  rw [lEnc, lEnc']
  obtain ⟨c1, c2, c3, c4, c5, c6, c7, c8⟩ := cut4 (PyData.str L.sender) (strsD L.words) (.int L.size) (strsD L.marks)
  simp only [bnd2_ss] at t0 t1 t2 t3
  refine seq_step (ρ := [.scr ns, .val a, .val b, .val (.tuple [.str L.sender, strsD L.words, .int L.size, strsD L.marks]), .val (.bool p), .val (.bool q), .val (.bool c), .val (.tuple [.str "either", .tuple [.str "not", a], .tuple [.str "not", b]]), .val (.list ((kinds A).map .str)), .val (.tuple [.str L'.sender, strsD L'.words, .int L'.size, strsD L'.marks]), .val (.int 3), .val (.str "marked"), .val (.tuple [.str L.sender, strsD L.words, .int L.size, strsD L'.marks]), .no]) ?_ rfl
  simp [forR, bnd2_ss, consD_, tupD_, enumD, itemsOf, enumFrom, forD, tgT2, setsR, gb, gv, partI, asI_i, slD, c1, c2, c3, c4, c5, c6, c7, c8, ixD_t, atI_0, atI_1, atI_2, atI_3, tup_add, addD_ii, asgR_s, seqR_nx, t0, t1, t2, t3, ifR_f]
end K12

namespace K12
open PySem L2 Evl Sv
theorem law_fn {P : Program} {w : World} {K : Fg} {mg : Str → Option Value} {base h : Heap} (X : K.In h) (G : h.Ns mainGlobals mg) (b : BIk K)  (d_holds_with : Dn K "holds_with" s_holds_with) (d_holds : Dn K "holds" s_holds) (d__law_cell_at : Dn K "_law_cell_at" s__law_cell_at) (d__law_mixed : Dn K "_law_mixed" s__law_mixed) (d__law_drawn : Dn K "_law_drawn" s__law_drawn) (d__law_test : Dn K "_law_test" s__law_test) (d__law_letter : Dn K "_law_letter" s__law_letter) (d__law_words : Dn K "_law_words" s__law_words) (d_law : Dn K "law" s_law) {fa : Addr} {fd : FuncData} (F : Fun K "law" "law" s_law fa fd) :
    FnOk P w K mg base CX0 8 fa fd ["script"] (spLaw K) := by
  have B := b.of X G
  have c1 : CalS P w K mg base 1 "_law_cell_at" ["script", "k"] (spCell K) := d__law_cell_at.cal X G (fun _ _ _ _ _ _ us hl => match us, hl with | [_, _], _ => rfl) fun f fd F => ok__law_cell_at (k := 0) F B
  have c2 : CalS P w K mg base 2 "_law_mixed" ["script", "k"] (spMix K) := d__law_mixed.cal X G (fun _ _ _ _ _ _ us hl => match us, hl with | [_, _], _ => rfl) fun f fd F => ok__law_mixed (k := 1) F c1
  have c3 : Cal P w K mg base 1 "_law_drawn" ["number", "k"] m_drawn := d__law_drawn.cal X G (fun _ _ _ _ _ _ us hl => match us, hl with | [_, _], _ => rfl) fun f fd F => ok__law_drawn (k := 0) F B
  have c4 : Cal P w K mg base 3 "_law_test" ["number", "deep"] (m_test 2) := d__law_test.recs (k₀ := 1) X G (fun _ _ _ _ _ _ us hl => match us, hl with | [_, _], _ => rfl) (fun f fd j m F hj c => ok__law_test F B c (c3.mono hj)) 2
  have c5 : Cal P w K mg base 1 "_law_letter" ["number"] m_letter := d__law_letter.cal X G (fun _ _ _ _ _ _ us hl => match us, hl with | [_], _ => rfl) fun f fd F => ok__law_letter (k := 0) F B
  have c6 : Cal P w K mg base 6 "holds_with" ["test", "letter", "marks"] (m_hw 6) := d_holds_with.recs (k₀ := 0) X G (fun _ _ _ _ _ _ us hl => match us, hl with | [_, _, _], _ => rfl) (fun f fd j m F hj c => ok_holds_with F B c) 6
  have c7 : Cal P w K mg base 7 "holds" ["test", "letter"] (m_holds 6) := d_holds.cal X G (fun _ _ _ _ _ _ us hl => match us, hl with | [_, _], _ => rfl) fun f fd F => ok_holds F B c6
  have c8 : Cal P w K mg base 4 "_law_words" ["test"] (m_words 4) := d__law_words.recs (k₀ := 0) X G (fun _ _ _ _ _ _ us hl => match us, hl with | [_], _ => rfl) (fun f fd j m F hj c => ok__law_words F B c) 4
  exact ok_law F B (c2.mono (by decide)) (c4.mono (by decide)) (c5.mono (by decide)) c7 (c8.mono (by decide)) fun ns _ => law_true ns
theorem all_mk {P : Program} {w : World} {K : Fg} {mg : Str → Option Value} {h : Heap} (X : K.In h) (G : h.Ns mainGlobals mg) {f_holds_with : Addr} {od_holds_with an_holds_with : Option Addr} {sl_holds_with : Array (Option Value)} {oc_holds_with kV_holds_with dc_holds_with pm_holds_with cd_holds_with ct_holds_with : Value} {f_holds : Addr} {od_holds an_holds : Option Addr} {sl_holds : Array (Option Value)} {oc_holds kV_holds dc_holds pm_holds cd_holds ct_holds : Value} {f__law_cell_at : Addr} {od__law_cell_at an__law_cell_at : Option Addr} {sl__law_cell_at : Array (Option Value)} {oc__law_cell_at kV__law_cell_at dc__law_cell_at pm__law_cell_at cd__law_cell_at ct__law_cell_at : Value} {f__law_mixed : Addr} {od__law_mixed an__law_mixed : Option Addr} {sl__law_mixed : Array (Option Value)} {oc__law_mixed kV__law_mixed dc__law_mixed pm__law_mixed cd__law_mixed ct__law_mixed : Value} {f__law_drawn : Addr} {od__law_drawn an__law_drawn : Option Addr} {sl__law_drawn : Array (Option Value)} {oc__law_drawn kV__law_drawn dc__law_drawn pm__law_drawn cd__law_drawn ct__law_drawn : Value} {f__law_test : Addr} {od__law_test an__law_test : Option Addr} {sl__law_test : Array (Option Value)} {oc__law_test kV__law_test dc__law_test pm__law_test cd__law_test ct__law_test : Value} {f__law_letter : Addr} {od__law_letter an__law_letter : Option Addr} {sl__law_letter : Array (Option Value)} {oc__law_letter kV__law_letter dc__law_letter pm__law_letter cd__law_letter ct__law_letter : Value} {f__law_words : Addr} {od__law_words an__law_words : Option Addr} {sl__law_words : Array (Option Value)} {oc__law_words kV__law_words dc__law_words pm__law_words cd__law_words ct__law_words : Value} {f_law : Addr} {od_law an_law : Option Addr} {sl_law : Array (Option Value)} {oc_law kV_law dc_law pm_law cd_law ct_law : Value}
    (a_holds_with : PySem.W.nsIn K mainGlobals "holds_with" = some (some (.ref f_holds_with))) (l_holds_with : K.lookup f_holds_with = some ⟨oc_holds_with, od_holds_with, .func (PySem.W.fnOf "holds_with" "holds_with" (defArgs s_holds_with) (defBody s_holds_with) (defScope s_holds_with) .none kV_holds_with dc_holds_with pm_holds_with an_holds_with cd_holds_with ct_holds_with), sl_holds_with⟩) (c_holds_with : PySem.W.codeIn K cd_holds_with "holds_with" = true) (k_holds_with : PySem.W.keepIn K (.ref f_holds_with) = true)
    (a_holds : PySem.W.nsIn K mainGlobals "holds" = some (some (.ref f_holds))) (l_holds : K.lookup f_holds = some ⟨oc_holds, od_holds, .func (PySem.W.fnOf "holds" "holds" (defArgs s_holds) (defBody s_holds) (defScope s_holds) .none kV_holds dc_holds pm_holds an_holds cd_holds ct_holds), sl_holds⟩) (c_holds : PySem.W.codeIn K cd_holds "holds" = true) (k_holds : PySem.W.keepIn K (.ref f_holds) = true)
    (a__law_cell_at : PySem.W.nsIn K mainGlobals "_law_cell_at" = some (some (.ref f__law_cell_at))) (l__law_cell_at : K.lookup f__law_cell_at = some ⟨oc__law_cell_at, od__law_cell_at, .func (PySem.W.fnOf "_law_cell_at" "_law_cell_at" (defArgs s__law_cell_at) (defBody s__law_cell_at) (defScope s__law_cell_at) .none kV__law_cell_at dc__law_cell_at pm__law_cell_at an__law_cell_at cd__law_cell_at ct__law_cell_at), sl__law_cell_at⟩) (c__law_cell_at : PySem.W.codeIn K cd__law_cell_at "_law_cell_at" = true) (k__law_cell_at : PySem.W.keepIn K (.ref f__law_cell_at) = true)
    (a__law_mixed : PySem.W.nsIn K mainGlobals "_law_mixed" = some (some (.ref f__law_mixed))) (l__law_mixed : K.lookup f__law_mixed = some ⟨oc__law_mixed, od__law_mixed, .func (PySem.W.fnOf "_law_mixed" "_law_mixed" (defArgs s__law_mixed) (defBody s__law_mixed) (defScope s__law_mixed) .none kV__law_mixed dc__law_mixed pm__law_mixed an__law_mixed cd__law_mixed ct__law_mixed), sl__law_mixed⟩) (c__law_mixed : PySem.W.codeIn K cd__law_mixed "_law_mixed" = true) (k__law_mixed : PySem.W.keepIn K (.ref f__law_mixed) = true)
    (a__law_drawn : PySem.W.nsIn K mainGlobals "_law_drawn" = some (some (.ref f__law_drawn))) (l__law_drawn : K.lookup f__law_drawn = some ⟨oc__law_drawn, od__law_drawn, .func (PySem.W.fnOf "_law_drawn" "_law_drawn" (defArgs s__law_drawn) (defBody s__law_drawn) (defScope s__law_drawn) .none kV__law_drawn dc__law_drawn pm__law_drawn an__law_drawn cd__law_drawn ct__law_drawn), sl__law_drawn⟩) (c__law_drawn : PySem.W.codeIn K cd__law_drawn "_law_drawn" = true) (k__law_drawn : PySem.W.keepIn K (.ref f__law_drawn) = true)
    (a__law_test : PySem.W.nsIn K mainGlobals "_law_test" = some (some (.ref f__law_test))) (l__law_test : K.lookup f__law_test = some ⟨oc__law_test, od__law_test, .func (PySem.W.fnOf "_law_test" "_law_test" (defArgs s__law_test) (defBody s__law_test) (defScope s__law_test) .none kV__law_test dc__law_test pm__law_test an__law_test cd__law_test ct__law_test), sl__law_test⟩) (c__law_test : PySem.W.codeIn K cd__law_test "_law_test" = true) (k__law_test : PySem.W.keepIn K (.ref f__law_test) = true)
    (a__law_letter : PySem.W.nsIn K mainGlobals "_law_letter" = some (some (.ref f__law_letter))) (l__law_letter : K.lookup f__law_letter = some ⟨oc__law_letter, od__law_letter, .func (PySem.W.fnOf "_law_letter" "_law_letter" (defArgs s__law_letter) (defBody s__law_letter) (defScope s__law_letter) .none kV__law_letter dc__law_letter pm__law_letter an__law_letter cd__law_letter ct__law_letter), sl__law_letter⟩) (c__law_letter : PySem.W.codeIn K cd__law_letter "_law_letter" = true) (k__law_letter : PySem.W.keepIn K (.ref f__law_letter) = true)
    (a__law_words : PySem.W.nsIn K mainGlobals "_law_words" = some (some (.ref f__law_words))) (l__law_words : K.lookup f__law_words = some ⟨oc__law_words, od__law_words, .func (PySem.W.fnOf "_law_words" "_law_words" (defArgs s__law_words) (defBody s__law_words) (defScope s__law_words) .none kV__law_words dc__law_words pm__law_words an__law_words cd__law_words ct__law_words), sl__law_words⟩) (c__law_words : PySem.W.codeIn K cd__law_words "_law_words" = true) (k__law_words : PySem.W.keepIn K (.ref f__law_words) = true)
    (a_law : PySem.W.nsIn K mainGlobals "law" = some (some (.ref f_law))) (l_law : K.lookup f_law = some ⟨oc_law, od_law, .func (PySem.W.fnOf "law" "law" (defArgs s_law) (defBody s_law) (defScope s_law) .none kV_law dc_law pm_law an_law cd_law ct_law), sl_law⟩) (c_law : PySem.W.codeIn K cd_law "law" = true) (k_law : PySem.W.keepIn K (.ref f_law) = true)
    (z_all : PySem.W.nsIn K mainGlobals "all" = some none)
    (z_any : PySem.W.nsIn K mainGlobals "any" = some none)
    (z_bool : PySem.W.nsIn K mainGlobals "bool" = some none)
    (z_dict : PySem.W.nsIn K mainGlobals "dict" = some none)
    (z_enumerate : PySem.W.nsIn K mainGlobals "enumerate" = some none)
    (z_int : PySem.W.nsIn K mainGlobals "int" = some none)
    (z_isinstance : PySem.W.nsIn K mainGlobals "isinstance" = some none)
    (z_len : PySem.W.nsIn K mainGlobals "len" = some none)
    (z_list : PySem.W.nsIn K mainGlobals "list" = some none)
    (z_max : PySem.W.nsIn K mainGlobals "max" = some none)
    (z_min : PySem.W.nsIn K mainGlobals "min" = some none)
    (z_range : PySem.W.nsIn K mainGlobals "range" = some none)
    (z_repr : PySem.W.nsIn K mainGlobals "repr" = some none)
    (z_set : PySem.W.nsIn K mainGlobals "set" = some none)
    (z_sorted : PySem.W.nsIn K mainGlobals "sorted" = some none)
    (z_str : PySem.W.nsIn K mainGlobals "str" = some none)
    (z_sum : PySem.W.nsIn K mainGlobals "sum" = some none)
    (z_tuple : PySem.W.nsIn K mainGlobals "tuple" = some none)
    (z_zip : PySem.W.nsIn K mainGlobals "zip" = some none) :
    Dn K "law" s_law ∧ ∀ (fa : Addr) (fd : FuncData), Fun K "law" "law" s_law fa fd → ∀ base : Heap, FnOk P w K mg base CX0 8 fa fd ["script"] (spLaw K) :=
  ⟨dn_mk a_law l_law c_law k_law, fun fa fd F base => law_fn X G ⟨z_all, z_any, z_bool, z_dict, z_enumerate, z_int, z_isinstance, z_len, z_list, z_max, z_min, z_range, z_repr, z_set, z_sorted, z_str, z_sum, z_tuple, z_zip⟩  (dn_mk a_holds_with l_holds_with c_holds_with k_holds_with) (dn_mk a_holds l_holds c_holds k_holds) (dn_mk a__law_cell_at l__law_cell_at c__law_cell_at k__law_cell_at) (dn_mk a__law_mixed l__law_mixed c__law_mixed k__law_mixed) (dn_mk a__law_drawn l__law_drawn c__law_drawn k__law_drawn) (dn_mk a__law_test l__law_test c__law_test k__law_test) (dn_mk a__law_letter l__law_letter c__law_letter k__law_letter) (dn_mk a__law_words l__law_words c__law_words k__law_words) (dn_mk a_law l_law c_law k_law) F⟩
end K12

open PySem PySem.W PyProof.Rows in
set_option maxRecDepth 100000 in
set_option maxHeartbeats 0 in
theorem PySem.Challenge.cw_sieverules_k12_whole_tests_reckoned_holds : PySem.Challenge.rw_sieverules_k12_whole_tests_reckoned.Holds := by
  w_on; o_law; k_head; (case hw => w_witness2)
  k_fill
  refine Sv.walk_law (l := PySem.Challenge.rw_sieverules_k12_whole_tests_reckoned) (st := K12.s_law) (k := 8) rfl rfl ⟨rfl, by decide, by decide⟩ (fun w h Y => PySem.W.kIn_of Y) rfl (fun _ _ _ _ _ _ _ _ => .of_eq rfl) ?F
  case F =>
    intro w mg h KX G
    refine' K12.all_mk KX G ?a_holds_with ?l_holds_with ?c_holds_with ?k_holds_with ?a_holds ?l_holds ?c_holds ?k_holds ?a__law_cell_at ?l__law_cell_at ?c__law_cell_at ?k__law_cell_at ?a__law_mixed ?l__law_mixed ?c__law_mixed ?k__law_mixed ?a__law_drawn ?l__law_drawn ?c__law_drawn ?k__law_drawn ?a__law_test ?l__law_test ?c__law_test ?k__law_test ?a__law_letter ?l__law_letter ?c__law_letter ?k__law_letter ?a__law_words ?l__law_words ?c__law_words ?k__law_words ?a_law ?l_law ?c_law ?k_law ?z_all ?z_any ?z_bool ?z_dict ?z_enumerate ?z_int ?z_isinstance ?z_len ?z_list ?z_max ?z_min ?z_range ?z_repr ?z_set ?z_sorted ?z_str ?z_sum ?z_tuple ?z_zip
    (case a_holds_with => k_is)
    (case l_holds_with => k_is)
    (case c_holds_with => k_is)
    (case k_holds_with => k_is)
    (case a_holds => k_is)
    (case l_holds => k_is)
    (case c_holds => k_is)
    (case k_holds => k_is)
    (case a__law_cell_at => k_is)
    (case l__law_cell_at => k_is)
    (case c__law_cell_at => k_is)
    (case k__law_cell_at => k_is)
    (case a__law_mixed => k_is)
    (case l__law_mixed => k_is)
    (case c__law_mixed => k_is)
    (case k__law_mixed => k_is)
    (case a__law_drawn => k_is)
    (case l__law_drawn => k_is)
    (case c__law_drawn => k_is)
    (case k__law_drawn => k_is)
    (case a__law_test => k_is)
    (case l__law_test => k_is)
    (case c__law_test => k_is)
    (case k__law_test => k_is)
    (case a__law_letter => k_is)
    (case l__law_letter => k_is)
    (case c__law_letter => k_is)
    (case k__law_letter => k_is)
    (case a__law_words => k_is)
    (case l__law_words => k_is)
    (case c__law_words => k_is)
    (case k__law_words => k_is)
    (case a_law => k_is)
    (case l_law => k_is)
    (case c_law => k_is)
    (case k_law => k_is)
    (case z_all => k_is)
    (case z_any => k_is)
    (case z_bool => k_is)
    (case z_dict => k_is)
    (case z_enumerate => k_is)
    (case z_int => k_is)
    (case z_isinstance => k_is)
    (case z_len => k_is)
    (case z_list => k_is)
    (case z_max => k_is)
    (case z_min => k_is)
    (case z_range => k_is)
    (case z_repr => k_is)
    (case z_set => k_is)
    (case z_sorted => k_is)
    (case z_str => k_is)
    (case z_sum => k_is)
    (case z_tuple => k_is)
    (case z_zip => k_is)
